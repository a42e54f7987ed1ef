import PyProof.Rows.All
import Wide.All
import OpenK.AllK
import Wide.FinOn
import HandS.ForMost
import HandS.DictComp
import HandS.DeepEq
import HandS.IsInst
import HandS.Wide
import HandS.Walk
import HandS.Flow
import HandS.Finally
import HandS.Style
import HandS.ListItems
import HandS.Conv
import KE.KDictZip
import HandS.SortOrd
import HandS.SortInts
import PySem.Challenge.RW_gotfrom_k06_whole_large_histories
set_option Elab.async false
set_option linter.all false
set_option maxRecDepth 100000
set_option maxHeartbeats 4000000
namespace GF
open PySem PySem.Spec PyProof.Rows L2
/-! ### heaps -/
/-- all but the addresses in W is as it was -/
def Keep (W : List Addr) (H H' : Hp) : Prop := ∀ b o, H b = some o → b ∉ W → H' b = some o
theorem Keep.of_same {W : List Addr} {H H' : Hp} (s : Same H H') : Keep W H H' := fun b o e _ => s b o e
theorem Keep.same {H H' : Hp} (s : Keep [] H H') : Same H H' := fun b o e => s b o e (by simp)
theorem Keep.refl {W : List Addr} (H : Hp) : Keep W H H := fun _ _ e _ => e
theorem Keep.trans {W : List Addr} {H H1 H2 : Hp} (a : Keep W H H1) (b : Keep W H1 H2) : Keep W H H2 := fun c o h n => b c o (a c o h n) n
theorem Keep.mono {W W' : List Addr} {H H' : Hp} (a : Keep W H H') (h : ∀ b, b ∈ W → b ∈ W') : Keep W' H H' := fun c o e n => a c o e fun m => n (h c m)
theorem Keep.at {W : List Addr} {H H' : Hp} {a : Addr} {o : HO} (k : Keep W H H') (n : a ∉ W) (e : H a = some o) : H' a = some o := k a o e n
theorem Keep.seq {K : PySem.W.Frag} {W : List Addr} {H H' : Hp} {a : Addr} {xs : List V} (e : Keep W H H') (n : a ∉ W) (h : SqL K H a xs) : SqL K H' a xs := by
  rcases h with (h | ⟨o, h⟩) | h
  · exact .inl (.inl (e _ _ h n))
  · exact .inl (.inr ⟨o, e _ _ h n⟩)
  · exact .inr h
theorem keep_upd {W : List Addr} {H : Hp} {p : Addr} {o : HO} (h : p ∈ W) : Keep W H (upd H p o) := fun b u e n => by
  rw [upd_ne (by rintro rfl; exact n h)]
  exact e
theorem keep_new {W : List Addr} {H : Hp} {p : Addr} {o : HO} (h : H p = none) : Keep W H (upd H p o) := fun b u e n => by
  rw [upd_ne (ne_of_none e h)]
  exact e
theorem same_new {H : Hp} {p : Addr} {o : HO} (h : H p = none) : Same H (upd H p o) := fun b u e => by
  rw [upd_ne (ne_of_none e h)]
  exact e
/-- a change at an address that was not there before -/
theorem same_mut {H H' : Hp} {p : Addr} {o : HO} (s : Same H H') (h : H p = none) : Same H (upd H' p o) := fun b u e => by
  rw [upd_ne (ne_of_none e h)]
  exact s b u e
theorem Keep.free {W : List Addr} {H H' : Hp} (e : Keep W H H') {l : Addr} (h : H' l = none) (n : l ∉ W) : H l = none := by
  cases q : H l with
  | none => rfl
  | some o =>
    rw [e l o q n] at h
    cases h
theorem sqL {K : PySem.W.Frag} {H : Hp} {a : Addr} {xs : List V} (h : H a = some (.lst xs)) : SqL K H a xs := .inl (.inl h)
theorem sqT {K : PySem.W.Frag} {H : Hp} {a : Addr} {xs : List V} (h : H a = some (.tup xs)) : SqT K H a xs := .inl (.inl h)
theorem sz {n : Nat} (h : n ≤ 100000) : n < sizeLine := Nat.lt_of_le_of_lt h (by decide)
theorem szl {n : Nat} (h : n ≤ 100000) : n ≤ sizeLine := Nat.le_of_lt (sz h)
/-! ### names -/
abbrev sv (l : List Str) : List V := l.map V.str
theorem sv_inj {a b : List Str} (h : sv a = sv b) : a = b := by
  induction a generalizing b with
  | nil =>
    cases b with
    | nil => rfl
    | cons y r => cases h
  | cons x r ih =>
    cases b with
    | nil => cases h
    | cons y s =>
      injection h with h1 h2
      injection h1 with h1
      rw [h1, ih h2]
theorem flat_sv (l : List Str) : (sv l).all flatV = true := List.all_eq_true.mpr fun x hx => by
  obtain ⟨y, _, rfl⟩ := List.mem_map.mp hx
  rfl
theorem eqV_str (x y : Str) : eqV (.str x) (.str y) = decide (x = y) := by
  by_cases h : x = y
  · subst h; simp [eqV]
  · simp [eqV, h]
theorem inV_sv (x : Str) (l : List Str) : inV (.str x) (sv l) = decide (x ∈ l) := by
  induction l with
  | nil => rfl
  | cons y r ih =>
    show (eqV (.str y) (.str x) || inV (.str x) (sv r)) = _
    rw [ih, eqV_str]
    by_cases h : y = x
    · subst h; simp
    · by_cases h2 : x ∈ r
      · simp [h2]
      · simp [h, h2, Ne.symm h]
theorem sv_get {l : List Str} {i : Nat} {x : Str} (h : l[i]? = some x) : (sv l)[i]? = some (.str x) := by
  rw [List.getElem?_map, h]
  rfl
theorem sv_get' {l : List Str} {i : Nat} {v : V} (h : (sv l)[i]? = some v) : ∃ x, l[i]? = some x ∧ v = .str x := by
  rw [List.getElem?_map] at h
  cases e : l[i]? with
  | none => rw [e] at h; cases h
  | some x => rw [e] at h; exact ⟨x, rfl, (Option.some.inj h).symm⟩
/-! ### data -/
theorem dp_sv {K : PySem.W.Frag} {H : Hp} (l : List Str) : DpAll K H (sv l) (l.map PyData.str) := by
  induction l with
  | nil => exact .nil
  | cons x r ih => exact .cons (.str x) ih
theorem dp_strs {K : PySem.W.Frag} {H : Hp} {a : Addr} {l : List Str} (h : SqL K H a (sv l)) : Dp K H (.ref a) (.list (l.map PyData.str)) := .lst h (dp_sv l)
theorem eqvAll_strs (a b : List Str) : PyData.eqvAll (a.map PyData.str) (b.map PyData.str) = decide (a = b) := by
  induction a generalizing b with
  | nil =>
    cases b with
    | nil => rfl
    | cons y r => rfl
  | cons x r ih =>
    cases b with
    | nil => rfl
    | cons y s =>
      show ((x == y) && PyData.eqvAll (r.map PyData.str) (s.map PyData.str)) = _
      rw [ih]
      by_cases h : x = y
      · subst h
        by_cases h2 : r = s
        · subst h2; simp
        · simp [h2]
      · simp [h]
theorem eqv_strs (a b : List Str) : PyData.eqv (.list (a.map PyData.str)) (.list (b.map PyData.str)) = decide (a = b) := eqvAll_strs a b
theorem canLay_strs {a : List Str} (h : ∀ x ∈ a, PyData.strOk x = true) : PyData.canLayAll0 (a.map PyData.str) = true := by
  induction a with
  | nil => rfl
  | cons x r ih =>
    have h1 := ih fun y hy => h y (List.mem_cons_of_mem _ hy)
    simp [PyData.canLayAll0, PyData.canLay0, h x List.mem_cons_self, h1]
theorem depth_strs (a : List Str) : PyData.depthAll (a.map PyData.str) ≤ 1 := by
  induction a with
  | nil => simp [PyData.depthAll]
  | cons x r ih => simpa [PyData.depthAll, PyData.depth] using ih
theorem shaped_strs {a : List Str} (h : ∀ x ∈ a, PyData.strOk x = true) : SeqAt.shaped (.list (a.map PyData.str)) = true := by
  have h1 : PyData.canLay0 (.list (a.map PyData.str)) = true := by simpa [PyData.canLay0] using canLay_strs h
  have h2 : PyData.depth (.list (a.map PyData.str)) ≤ 64 := by
    have := depth_strs a
    simp only [PyData.depth]; omega
  unfold SeqAt.shaped
  rw [h1]
  simp [h2]
/-! ### rules that the layer lacks -/
section
variable {J : It} {n : Nat} {G : Hp → Prop} {Y : Nat → Hp → V → Hp → Prop}
/-- a dict comprehension over any walk -/
theorem dc_it (w : Walk J n G Y) {g : TG} {tt : TT} {tk tv : TE} {vs : List Nat} {σ : L2.St} {H1 : Hp} {D : Addr} {Qd : Hp → Prop} (Pv : Nat → Hp → Prop) (h0 : Pv 0 (upd H1 D (.dK [])))
    (hG : ∀ i H, i ≤ n → Pv i H → G H)
    (hs : ∀ i x H H', i < n → Pv i H → Y i H x H' → g x (wipe σ vs) H' fun σ2 H2 => wipe σ2 vs = wipe σ vs ∧
      tt σ2 H2 fun b H3 => if b = true then tk σ2 H3 fun y H4 => tv σ2 H4 fun z H5 =>
        ∃ kvs k, y = kV k ∧ H5 D = some (.dK kvs) ∧ kvs.length < sizeLine ∧ Pv (i + 1) (upd H5 D (.dK (putK kvs k z)))
      else Pv (i + 1) H3)
    (hd : ∀ H, Pv n H → Qd H) :
    ∃ W : Nat → Nat → Hp → Prop, (∃ m, W 0 m (upd H1 D (.dK []))) ∧ ∀ i m H, W i m H →
      (J.stop i H ∧ Qd H) ∨ (J.go i H ∧ ∃ Nx : Hp → Prop, (∀ H', Nx H' → ∃ m', m' < m ∧ W (i + 1) m' H') ∧
        ∀ x H', J.yld i H x H' → g x (wipe σ vs) H' fun σ2 H2 => wipe σ2 vs = wipe σ vs ∧
          tt σ2 H2 fun b H3 => if b = true then tk σ2 H3 fun y H4 => tv σ2 H4 fun z H5 =>
            ∃ kvs k, y = kV k ∧ H5 D = some (.dK kvs) ∧ kvs.length < sizeLine ∧ Nx (upd H5 D (.dK (putK kvs k z)))
          else Nx H3) :=
  ⟨fun i m H => m + i = n ∧ Pv i H, ⟨n, Nat.add_zero n, h0⟩, fun i m H ⟨e, p⟩ => by
    have q := hG i H (by omega) p
    rcases Nat.lt_or_ge i n with h | h
    · exact .inr ⟨w.goes i H h q, Pv (i + 1), fun H' p' => ⟨n - (i + 1), by omega, by omega, p'⟩, fun x H' y => hs i x H H' h p (w.yields i H x H' h q y)⟩
    · have e' : i = n := by omega
      subst e'
      exact .inl ⟨w.stops H q, hd H p⟩⟩
end
/-- a list of names, walked -/
theorem walk_sv {K : PySem.W.Frag} {a : Addr} (ms : List Str) : Walk (Itl K a) ms.length (fun H => SqL K H a (sv ms)) (fun i H x H' => H' = H ∧ ∃ m, ms[i]? = some m ∧ x = .str m) := by
  have h := walk_list (K := K) (a := a) (xs := sv ms)
  rw [List.length_map] at h
  exact h.mono (fun _ q => q) fun i H x H' _ _ y => ⟨y.1, sv_get' y.2⟩
def rListOf (K : PySem.W.Frag) : List V → Hp → VK → Prop := fun xs H Q => ∃ p ys, xs = [.ref p] ∧
  (SqL K H p ys ∨ SqT K H p ys) ∧ ∀ l, H l = none → Q (.ref l) (upd H l (.lst ys))
theorem call_listK {X : Cx} : CallR X (.type "list") (rListOf X.K) := call_list_of
def rLenOf (K : PySem.W.Frag) : List V → Hp → VK → Prop := fun xs H Q => ∃ p ys, xs = [.ref p] ∧ (SqL K H p ys ∨ SqT K H p ys) ∧
  Q (.int ys.length) H
theorem call_lenK {X : Cx} : CallR X (.builtin "len") (rLenOf X.K) := call_len_seq
/-- x != y, two dicts that are equal (values of any nesting) -/
def rNeDict (K : PySem.W.Frag) : R2 := fun x y H Q => ∃ a b ks ls, x = .ref a ∧ y = .ref b ∧ H a = some (.dK ks) ∧ H b = some (.dK ls) ∧ ks.length = ls.length ∧
  (∀ p ∈ ks, ∃ u, valV ls p.1 = some u ∧ EqV K H 60 p.2 u) ∧ Q (.bl false) H
theorem op_neDict {X : Cx} (hu : X.A.units + 64 < cLine) : OpR X (compareOp .NotEq) (rNeDict X.K) := by
  intro pins s σ H x y v u Q I rx ry h
  obtain ⟨a, b, ks, ls, rfl, rfl, ha, hb, hl, hp, q⟩ := h
  cases (show v = Value.ref a from rx); cases (show u = Value.ref b from ry)
  obtain ⟨_, ya, va, ra, da⟩ := I.hok a _ ha; obtain ⟨_, yb, vb, rb, db⟩ := I.hok b _ hb
  have e : (va.length == vb.length && true) = true := by rw [← ra.length, ← rb.length, hl]; simp
  refine wpAny_richCompare_same_room (op := .NotEq) da.typeIs db.typeIs PySem.F.slot_dict_ne (wpAny_call_entry PySem.F.slot_dict_ne da.typeIs PySem.F.entry_dict_ne ?_
    (PySem.F.args_dict_ne_2 _ _)) (show X.A.units < cLine by omega)
  show wpAny _ _ (Builtin.Dict.dictSlotArgs "__ne__" ⟨[.ref a, .ref b], []⟩ >>= _) _ _ s
  refine wpAny_bind ?_; unfold Builtin.Dict.dictSlotArgs
  refine wpAny_bind (wpAny_notOrdered_dict da.typeIs ?_); show wpAny _ _ (pure (Value.ref a, Value.ref b)) _ _ s
  refine wpAny_pure (wpAny_bind (wpAny_isInstance (T := "dict") db.typeIs PySem.F.sub_dict_dict ?_))
  simp only [Bool.not_true, Bool.false_eq_true, if_false]
  refine wpAny_bind (wpAny_pure (wpAny_bind (wpAny_pure (wpAny_bind (PySem.W.samePairsP (r := true) ya yb da db (fun _ =>
    hits_run (F := EqV X.K H 60) (fun x y v u h r1 r2 => eqV_run I 60 X.A.in1 (by show X.A.units + 1 + 60 < cLine; omega) x y v u h r1 r2) rb ra hp) ?_)))))
  rw [e]
  exact wpAny_pure ⟨_, rfl, (fun z => by cases z), ⟨.bl false, H, I, rfl, q⟩⟩
/-! ### a dict of lists of names -/
/-- pairs of a dict whose keys are ms, the value of m is v m -/
def mkd (ms : List Str) (v : Str → V) : List (Key × V) := ms.map fun m => (Sum.inr m, v m)
abbrev mkv (ms : List Str) (ad : Str → Addr) : List (Key × V) := mkd ms fun m => .ref (ad m)
theorem mkd_val {ms : List Str} {v : Str → V} {m : Str} (h : m ∈ ms) : valV (mkd ms v) (Sum.inr m : Key) = some (v m) := by
  induction ms with
  | nil => simp at h
  | cons x r ih =>
    by_cases e : x = m
    · subst e; exact valV_pos rfl
    · have e' : ¬ (Sum.inr x : Key) = Sum.inr m := fun z => e (Sum.inr.inj z)
      exact (valV_neg e').trans (ih ((List.mem_cons.mp h).resolve_left (Ne.symm e)))
theorem mkv_val {ms : List Str} {ad : Str → Addr} {m : Str} (h : m ∈ ms) : valV (mkv ms ad) (Sum.inr m : Key) = some (.ref (ad m)) := mkd_val h
theorem mkd_none {ms : List Str} {v : Str → V} {m : Str} (h : m ∉ ms) : valV (mkd ms v) (Sum.inr m : Key) = none := by
  induction ms with
  | nil => rfl
  | cons x r ih =>
    obtain ⟨h1, h2⟩ := not_or.mp (mt List.mem_cons.mpr h)
    have e' : ¬ (Sum.inr x : Key) = Sum.inr m := fun z => h1 (Sum.inr.inj z).symm
    exact (valV_neg e').trans (ih h2)
theorem mkd_len (ms : List Str) (v : Str → V) : (mkd ms v).length = ms.length := List.length_map _
theorem mkd_snoc {ms : List Str} {v v' : Str → V} {m : Str} {z : V} (h : m ∉ ms) (h1 : ∀ x ∈ ms, v' x = v x) (h2 : v' m = z) : putK (mkd ms v) (Sum.inr m) z = mkd (ms ++ [m]) v' := by
  rw [putK_new _ (mkd_none h)]
  unfold mkd
  rw [List.map_append]
  congr 1
  · exact List.map_congr_left fun x hx => by rw [h1 x hx]
  · simp [h2]
/-- two dicts of flat values -/
theorem mkd_eqs {K : PySem.W.Frag} {H : Hp} {ms : List Str} {v u : Str → V} (h : ∀ m ∈ ms, v m = u m) (hf : ∀ m ∈ ms, flatB (v m) = true) (n : Nat) : ∀ p ∈ mkd ms v, ∃ z, valV (mkd ms u) p.1 = some z ∧ EqV K H (n + 1) p.2 z := by
  intro p hp
  obtain ⟨m, hm, rfl⟩ := List.mem_map.mp hp
  exact ⟨u m, mkd_val hm, .inl ⟨h m hm, hf m hm⟩⟩
/-- at d a dict whose keys are ms, the value of m the list at ad m, which holds f m -/
structure DL (H : Hp) (d : Addr) (ms : List Str) (ad : Str → Addr) (f : Str → List Str) : Prop where
  dict : H d = some (.dK (mkv ms ad))
  at_ : ∀ m ∈ ms, H (ad m) = some (.lst (sv (f m)))
theorem DL.get {H : Hp} {d : Addr} {ms : List Str} {ad : Str → Addr} {f : Str → List Str} (h : DL H d ms ad f) {m : Str} (hm : m ∈ ms) : DGet H d (.str m) (some (.ref (ad m))) := by
  have := DGet.k (k := Sum.inr m) h.dict
  rw [mkv_val hm] at this
  exact this
theorem DL.keep {W : List Addr} {H H' : Hp} {d : Addr} {ms : List Str} {ad : Str → Addr} {f : Str → List Str} (h : DL H d ms ad f) (k : Keep W H H') (n : d ∉ W) (n2 : ∀ m ∈ ms, ad m ∉ W) : DL H' d ms ad f :=
  ⟨k _ _ h.dict n, fun m hm => k _ _ (h.at_ m hm) (n2 m hm)⟩
theorem DL.same {H H' : Hp} {d : Addr} {ms : List Str} {ad : Str → Addr} {f : Str → List Str} (h : DL H d ms ad f) (k : Same H H') : DL H' d ms ad f := ⟨k _ _ h.dict, fun m hm => k _ _ (h.at_ m hm)⟩
/-- one more member -/
def pad (ad : Str → Addr) (m : Str) (l : Addr) : Str → Addr := fun y => if y = m then l else ad y
theorem pad_same {ad : Str → Addr} {m : Str} {l : Addr} : pad ad m l m = l := if_pos rfl
theorem pad_ne {ad : Str → Addr} {m y : Str} {l : Addr} (h : y ≠ m) : pad ad m l y = ad y := if_neg h
/-- a dict of new lists: they stand apart and were not there in H0 -/
structure DN (H0 H : Hp) (d : Addr) (ms : List Str) (ad : Str → Addr) (f : Str → List Str) : Prop where
  dl : DL H d ms ad f
  d0 : H0 d = none
  new : ∀ m ∈ ms, H0 (ad m) = none
  inj : ∀ x ∈ ms, ∀ y ∈ ms, ad x = ad y → x = y
theorem DN.nil {H0 H : Hp} {d : Addr} {ad : Str → Addr} {f : Str → List Str} (h : H0 d = none) (e : H d = some (.dK [])) : DN H0 H d [] ad f := ⟨⟨e, fun _ z => by cases z⟩, h, fun _ z => (by cases z), fun _ z => (by cases z)⟩
theorem DN.snoc {H0 H H1 : Hp} {d l : Addr} {ms : List Str} {ad : Str → Addr} {f : Str → List Str} {m : Str} (h : DN H0 H d ms ad f) (s0 : Same H0 H) (hm : m ∉ ms) (s : Same H H1) (nl : H l = none) (el : H1 l = some (.lst (sv (f m)))) :
    DN H0 (L2.upd H1 d (.dK (putK (mkv ms ad) (Sum.inr m) (.ref l)))) d (ms ++ [m]) (pad ad m l) f := by
  have nld : l ≠ d := fun z => by subst z; rw [h.dl.dict] at nl; cases nl
  have ne : ∀ x ∈ ms, x ≠ m := fun x hx z => hm (z ▸ hx)
  have had : ∀ x ∈ ms, ad x ≠ l := fun x hx z => by rw [← z, h.dl.at_ x hx] at nl; cases nl
  have hdk : ∀ x ∈ ms, ad x ≠ d := fun x hx => ne_of (h.dl.at_ x hx) h.dl.dict (fun z => by cases z)
  refine ⟨⟨?_, fun x hx => ?_⟩, h.d0, fun x hx => ?_, fun x hx y hy e => ?_⟩
  · rw [upd_same, mkd_snoc (v' := fun y => .ref (pad ad m l y)) hm (fun x hx => by rw [pad_ne (ne x hx)]) (by rw [pad_same])]
  · rcases List.mem_append.mp hx with hx | hx
    · rw [pad_ne (ne x hx), upd_ne (hdk x hx)]
      exact s _ _ (h.dl.at_ x hx)
    · cases List.mem_singleton.mp hx
      rw [pad_same, upd_ne nld]
      exact el
  · rcases List.mem_append.mp hx with hx | hx
    · rw [pad_ne (ne x hx)]; exact h.new x hx
    · cases List.mem_singleton.mp hx
      rw [pad_same]; exact s0.free nl
  · rcases List.mem_append.mp hx with hx | hx <;> rcases List.mem_append.mp hy with hy | hy
    · rw [pad_ne (ne x hx), pad_ne (ne y hy)] at e; exact h.inj x hx y hy e
    · cases List.mem_singleton.mp hy
      rw [pad_ne (ne x hx), pad_same] at e; exact absurd e (had x hx)
    · cases List.mem_singleton.mp hx
      rw [pad_ne (ne y hy), pad_same] at e; exact absurd e.symm (had y hy)
    · rw [List.mem_singleton.mp hx, List.mem_singleton.mp hy]
theorem take_snoc {α : Type} {l : List α} {i : Nat} {x : α} (h : l[i]? = some x) : l.take (i + 1) = l.take i ++ [x] := by
  rw [List.take_add_one, h]; rfl
theorem not_take {l : List Str} {i : Nat} {x : Str} (nd : l.Nodup) (h : l[i]? = some x) : x ∉ l.take i := fun m => by
  obtain ⟨hi, ei⟩ := List.getElem?_eq_some_iff.mp h
  obtain ⟨j, hj, ej⟩ := List.getElem_of_mem m
  rw [List.getElem_take] at ej
  have hj' : j < i := by rw [List.length_take] at hj; omega
  have := (List.getElem_inj nd).mp (ej.trans ei.symm)
  omega
/-- f with x for m -/
def put (f : Str → List Str) (m : Str) (x : List Str) : Str → List Str := fun y => if y = m then x else f y
theorem put_same {f : Str → List Str} {m : Str} {x : List Str} : put f m x m = x := if_pos rfl
theorem put_ne {f : Str → List Str} {m y : Str} {x : List Str} (h : y ≠ m) : put f m x y = f y := if_neg h
/-- one list is changed -/
theorem DL.upd {H : Hp} {d : Addr} {ms : List Str} {ad : Str → Addr} {f : Str → List Str} (h : DL H d ms ad f) {m : Str} (hm : m ∈ ms) (inj : ∀ x ∈ ms, ∀ y ∈ ms, ad x = ad y → x = y) {x : List Str} : DL (upd H (ad m) (.lst (sv x))) d ms ad (put f m x) := by
  refine ⟨?_, fun y hy => ?_⟩
  · rw [upd_ne (ne_of h.dict (h.at_ m hm) (fun z => by cases z))]
    exact h.dict
  · by_cases e : y = m
    · subst e; rw [upd_same, put_same]
    · rw [upd_ne (fun z => e (inj y hy m hm z)), put_ne e]
      exact h.at_ y hy
theorem DL.congr {H : Hp} {d : Addr} {ms : List Str} {ad : Str → Addr} {f g : Str → List Str} (h : DL H d ms ad f) (e : ∀ m ∈ ms, f m = g m) : DL H d ms ad g := ⟨h.dict, fun m hm => by rw [← e m hm]; exact h.at_ m hm⟩
theorem DN.set {H0 H : Hp} {d : Addr} {ms : List Str} {ad : Str → Addr} {f : Str → List Str} (h : DN H0 H d ms ad f) {m : Str} (hm : m ∈ ms) {x : List Str} : DN H0 (L2.upd H (ad m) (.lst (sv x))) d ms ad (put f m x) :=
  ⟨h.dl.upd hm h.inj, h.d0, h.new, h.inj⟩
theorem DN.congr {H0 H : Hp} {d : Addr} {ms : List Str} {ad : Str → Addr} {f g : Str → List Str} (h : DN H0 H d ms ad f) (e : ∀ m ∈ ms, f m = g m) : DN H0 H d ms ad g := ⟨DL.congr h.dl e, h.d0, h.new, h.inj⟩
/-- equal dicts of lists -/
theorem DL.eqs {K : PySem.W.Frag} {H : Hp} {d e : Addr} {ms : List Str} {ad ae : Str → Addr} {f g : Str → List Str} (h : DL H d ms ad f) (k : DL H e ms ae g) (hf : ∀ m ∈ ms, f m = g m) (n : Nat) :
    ∀ p ∈ mkv ms ad, ∃ u, valV (mkv ms ae) p.1 = some u ∧ EqV K H (n + 2) p.2 u := by
  intro p hp
  obtain ⟨m, hm, rfl⟩ := List.mem_map.mp hp
  refine ⟨.ref (ae m), mkv_val hm, .inr (.inr (.inl ⟨ad m, ae m, sv (f m), sv (g m), rfl, rfl, sqL (h.at_ m hm), sqL (k.at_ m hm), ?_⟩))⟩
  rw [hf m hm]
  generalize g m = l
  induction l with
  | nil => exact .nil
  | cons x r ih => exact .cons (.inl ⟨rfl, rfl⟩) ih
/-! ### the givers of a history -/
/-- of whom m got the document -/
def givers (m : Str) : List Str → List Str
  | a :: b :: r => if b = m then a :: givers m (b :: r) else givers m (b :: r)
  | _ => []
theorem givers_snoc (m y x : Str) : ∀ h : List Str, givers m (h ++ [y, x]) = givers m (h ++ [y]) ++ (if x = m then [y] else [])
  | [] => by
    show (if x = m then [y] else []) = _
    split <;> rfl
  | [a] => by
    show (if y = m then a :: givers m [y, x] else givers m [y, x]) = (if y = m then [a] else []) ++ _
    rw [show givers m [y, x] = if x = m then [y] else [] from rfl]
    split <;> rfl
  | a :: b :: r => by
    have ih := givers_snoc m y x (b :: r)
    show (if b = m then a :: givers m (b :: r ++ [y, x]) else givers m (b :: r ++ [y, x])) = (if b = m then a :: givers m (b :: r ++ [y]) else givers m (b :: r ++ [y])) ++ _
    rw [ih]
    split <;> rfl
theorem givers_last {m x : Str} {h : List Str} (hn : h ≠ []) : givers m (h ++ [x]) = givers m h ++ (if x = m then [h.getLast hn] else []) := by
  have e := List.dropLast_concat_getLast hn
  generalize h.getLast hn = y at e ⊢
  generalize h.dropLast = p at e
  subst e
  rw [List.append_assoc]
  exact givers_snoc m y x p
theorem givers_mem {m g : Str} : ∀ {h : List Str}, g ∈ givers m h → g ∈ h
  | [], k => by simp [givers] at k
  | [_], k => by simp [givers] at k
  | a :: b :: r, k => by
    have k : g ∈ (if b = m then a :: givers m (b :: r) else givers m (b :: r)) := k
    by_cases e : b = m
    · rw [if_pos e] at k
      rcases List.mem_cons.mp k with z | z
      · exact z ▸ List.mem_cons_self
      · exact List.mem_cons_of_mem _ (givers_mem z)
    · rw [if_neg e] at k
      exact List.mem_cons_of_mem _ (givers_mem k)
theorem idx_self (a : Str) (r : List Str) : (a :: r).idxOf a = 0 := by simp
theorem idx_ne {a b : Str} (r : List Str) (h : b ≠ a) : (a :: r).idxOf b = r.idxOf b + 1 := by
  have e : (a == b) = false := by simp [Ne.symm h]
  rw [List.idxOf_cons, e]
  rfl
/-- the first entry of a member other than the first holder had the document before the member -/
theorem givers_head {m g : Str} {t : List Str} : ∀ {a : Str} {r : List Str}, m ≠ a → givers m (a :: r) = g :: t → (a :: r).idxOf g < (a :: r).idxOf m
  | a, [], _, k => by simp [givers] at k
  | a, b :: r, n, k => by
    have k : (if b = m then a :: givers m (b :: r) else givers m (b :: r)) = g :: t := k
    rw [idx_ne _ n]
    by_cases e : b = m
    · rw [if_pos e] at k
      injection k with k1 k2
      rw [k1, idx_self]
      exact Nat.succ_pos _
    · rw [if_neg e] at k
      have ih := givers_head (Ne.symm e) k
      by_cases e2 : g = a
      · rw [e2, idx_self]
        exact Nat.succ_pos _
      · rw [idx_ne _ e2]
        omega
theorem givers_len (m : Str) : ∀ h : List Str, (givers m h).length ≤ h.length
  | [] => Nat.zero_le _
  | [_] => Nat.zero_le _
  | a :: b :: r => by
    have ih := givers_len m (b :: r)
    show (if b = m then a :: givers m (b :: r) else givers m (b :: r)).length ≤ _
    split <;> simp only [List.length_cons] at ih ⊢ <;> omega
theorem sum_zero {ms : List Str} {f : Str → Nat} (h : ∀ m ∈ ms, f m = 0) : (ms.map f).sum = 0 := by
  induction ms with
  | nil => rfl
  | cons x r ih => simp [h x List.mem_cons_self, ih fun m hm => h m (List.mem_cons_of_mem _ hm)]
theorem sum_le {ms : List Str} {f g : Str → Nat} (h : ∀ m ∈ ms, f m ≤ g m) : (ms.map f).sum ≤ (ms.map g).sum := by
  induction ms with
  | nil => exact Nat.le_refl _
  | cons x r ih =>
    have h1 := h x List.mem_cons_self
    have h2 := ih fun m hm => h m (List.mem_cons_of_mem _ hm)
    simp only [List.map_cons, List.sum_cons]
    omega
theorem sum_eq {ms : List Str} {f g : Str → Nat} (h : ∀ m ∈ ms, f m = g m) : (ms.map f).sum = (ms.map g).sum := by
  rw [List.map_congr_left h]
theorem sum_one {ms : List Str} (nd : ms.Nodup) (b : Str) (c : Nat) : (ms.map fun m => if b = m then c else 0).sum ≤ c := by
  induction ms with
  | nil => exact Nat.zero_le _
  | cons x r ih =>
    obtain ⟨n1, n2⟩ := List.nodup_cons.mp nd
    simp only [List.map_cons, List.sum_cons]
    by_cases e : b = x
    · subst e
      rw [if_pos rfl, sum_zero (f := fun m => if b = m then c else 0) fun m hm => if_neg (by rintro rfl; exact n1 hm)]
      omega
    · rw [if_neg e]
      have := ih n2
      omega
theorem sum_add {ms : List Str} {f g : Str → Nat} : (ms.map fun m => f m + g m).sum = (ms.map f).sum + (ms.map g).sum := by
  induction ms with
  | nil => rfl
  | cons x r ih => simp only [List.map_cons, List.sum_cons, ih]; omega
/-- all entries together are not more than the holders -/
theorem givers_sum {ms : List Str} (nd : ms.Nodup) : ∀ h : List Str, (ms.map fun m => (givers m h).length).sum ≤ h.length
  | [] => by rw [sum_zero (f := fun m => (givers m []).length) fun _ _ => rfl]; exact Nat.zero_le _
  | [a] => by rw [sum_zero (f := fun m => (givers m [a]).length) fun _ _ => rfl]; exact Nat.zero_le _
  | a :: b :: r => by
    have ih := givers_sum nd (b :: r)
    have e : (ms.map fun m => (givers m (a :: b :: r)).length).sum = (ms.map fun m => (givers m (b :: r)).length + (if b = m then 1 else 0)).sum := sum_eq fun m _ => by
      show (if b = m then a :: givers m (b :: r) else givers m (b :: r)).length = _
      split <;> simp
    rw [e, sum_add]
    have := sum_one nd b 1
    simp only [List.length_cons] at ih ⊢
    omega
end GF
namespace GF
open PySem PySem.Spec PyProof.Rows L2
/-! ### promises of defs that are called while no repr runs: what repr gives is then known -/
structure FnG (P : Program) (w : World) (K : PySem.W.Frag) (mg : Str → Option Value) (base : Heap) (k : Nat) (f : Addr) (fd : FuncData) (ps : List Str) (sp : Sp) : Prop where
  len : ∀ vs H Q E, sp vs H Q E → vs.length = ps.length
  run : ∀ A : Around, A.guards = some [] → ∀ (outer : List Env) (s : Shared) (H : Hp) (g : Args) (us : List Value) (vs : List V) (Q : VK) (E : XK), Room k A → Env0 P w K mg base A outer s H →
    BindsTo s fd g (ps.zip us) → Vals vs us → sp vs H Q E → codeAny (model P w) A (.call (.ref f) g) (CR CX0 outer P w H s Q E) s
section
variable {P : Program} {w : World} {K : PySem.W.Frag} {mg : Str → Option Value} {base : Heap}
/-- a def by its body, read where no repr runs -/
theorem fun_okG {x qual : Str} {st : Stmt} {f : Addr} {fd : FuncData} {N ps : List Str} {k : Nat} {sp : Sp} (F : Fun K x qual st f fd) (S : FnScope N ps (defScope st)) (hl : ∀ vs H Q E, sp vs H Q E → vs.length = ps.length)
    (body : ∀ (cd : Value) (A : Around) (outer : List Env) (s : Shared) (H : Hp) (vs : List V) (Q : VK) (E : XK), A.guards = some [] → Room k (A.deeper (envOfC qual (defScope st) s.heap.objs.size f cd)) → sp vs H Q E →
      ∃ t, PSs (cxOf CX0 P w K mg base N qual (defScope st) f cd A outer s H E).nox (defBody st) t ∧ t { nx := fun _ H' => Q .non H', rt := Q } (start N vs) H) :
    FnG P w K mg base (k + 1) f fd ps sp := by
  obtain ⟨oc, od, kV, doc, pm, an, cd, ct, osl, rfl, lk, hcd⟩ := F.ex
  refine ⟨hl, fun A hg outer s H g us vs Q E hr e0 hb rv hs => ?_⟩
  have kin := e0.mod.kin.keeps (fun b o e => (e0.bs b o e).1)
  have nolim := e0.mod.nolimit.keeps (fun b o e => (e0.bs b o e).1)
  have places : ∀ y ∈ ps.zip us, (defScope st).names.lookup y.1 = some .local ∨
      ((defScope st).names.lookup y.1 = some .cell ∧ ((cellsFrom (s.heap.objs.size + 1) (defScope st).names []).lookup y.1).isSome = true) := by
    intro y hy
    obtain ⟨y1, y2⟩ := y
    exact (S.par y1 (List.of_mem_zip hy).1).imp id fun q => ⟨q, PySem.W.cellsFrom_some _ _ _ (.inl q)⟩
  refine codeAny_call_function hr.depth (kin _ _ lk) rfl S.co S.gen rfl (PySem.W.codeRec_of kin hcd) (hb _ _ _ _ (wpAny_newFunctionEnv_cells S.kind places ?_))
  rintro _ rfl s1 made
  obtain ⟨t, pt, q⟩ := body cd A outer s H vs Q E hg (hr.deeper _) hs
  have I := inv_start (CX := CX0) (E := E) S hr.hd e0 (hl _ _ _ _ hs) rv made
  refine ⟨nolim.keeps made.toInCall.keep, codeAny_func (wpAny_mono (pt.nox.run [] s1 (start N vs) H _ I q) ?_ fun _ _ z => z)⟩
  intro fl s' h
  match fl, h with
  | .ret _, ⟨v, _, H', J, r, z⟩ => exact ⟨v, H', J.os, J.bare, J.base, J.hok, r, z⟩
  | .next, ⟨_, H', J, z⟩ => exact ⟨V.non, H', J.os, J.bare, J.base, J.hok, rfl, z⟩
  | .brk, ⟨_, _, _, z⟩ => exact z.elim
  | .cont, ⟨_, _, _, z⟩ => exact z.elim
end
section
variable {X : Cx} {k : Nat} {f : Addr} {fd : FuncData} {ps : List Str} {sp : Sp} {x : Str} {p pos : Pos} {e : Expr} {es : List Expr} {t : TA}
/-- f(e, ..) of such a def -/
theorem pe_callG (F : FnG X.prog X.w X.K X.mg X.base k f fd ps sp) (hg0 : X.A.guards = some []) (hr : Room k X.A) (hg : Gl X x) (hm : X.mg x = some (.ref f)) (hk : PySem.W.keepIn X.K (.ref f) = true) (hb : Binds X.K fd ps []) (ha : PA X (e :: es) t)
    (hdb : (x == ("__debug__" : Str)) = false := by decide) (he : starEach (e :: es) X.env = (false, eval e X.env) :: starEach es X.env := by rfl) (hpl : (backTo pos (starEach es X.env)).any (·.1) = false := by rfl) :
    PE X (.Call (.Name x p) (e :: es) [] pos) (tCall sp [] E0 t) := by
  refine ⟨fun pins s σ H Q I h => wpAny_Call_Name_kw (ld_glob I hg hm (PySem.W.callWith_K (h₀ := X.base) I.ok.mod.kin hk (thn (ha.run pos pins s σ H _ I h) ?_) he hpl) hdb)⟩
  rintro us s1 ⟨vs, H1, I1, r, q⟩
  have q' : sp vs H1 Q E0 := by rw [← List.append_nil vs]; exact q
  have hus : (us ++ []).length = ps.length := by rw [List.append_nil, ← r.length]; exact F.len _ _ _ _ q'
  have bt := hb s1 us I1.kIn hus
  rw [List.append_nil] at bt
  refine ⟨I1.kIn, wpAny_call (codeAny_mono (F.run X.A hg0 X.stack s1 H1 ⟨us, []⟩ us vs Q E0 hr I1.env0 bt r q') ?_)⟩
  intro r s' z
  match r, z with
  | .error _, z => exact z.elim
  | .ok (.ret _), z => exact I1.after z
  | .ok .next, z => exact z.elim
  | .ok .brk, z => exact z.elim
  | .ok .cont, z => exact z.elim
end
/-! ### the law's own call -/
section
variable {P : Program} {w : World} {K : PySem.W.Frag} {mg mb : Str → Option Value} {k : Nat} {fa a : Addr} {fd : FuncData} {x : Str} {sp : Sp} {s1 : Shared} {vs : List Value} {ns : List Int}
/-- what the law's call is to end in -/
def GoodEnd (s1 : Shared) (r : Result) (s' : Shared) : Prop := r = .ok (.ret (.bool true)) ∧ OldK s1.heap s'.heap ∧ s'.os = s1.os ∧ AllBare s'.gens
/-- from an abstract heap that tracks the script at most -/
theorem start_at (hn : s1.heap.Ns mainGlobals mg) (hb : s1.heap.Ns builtinsNs mb) (hbb : ∀ x : Str, x ≠ "__name__" → mb x = bootBuiltins x) (hlim : s1.heap.NoLimit) (hg : s1.gens = #[]) (ko : K.In s1.heap) {o : Obj} (ha : s1.heap.get? a = some o)
    (hd : ∀ es ep, o.data ≠ .dict es ep) (hr : Room k callerA) (F : ∀ base : Heap, K.In base → base.Ns mainGlobals mg → FnG P w K mg base k fa fd [x] sp) (hbind : ∀ (s : Shared) (u : Value), BindsTo s fd ⟨[u], []⟩ [(x, u)])
    {H : Hp} (hs : sp [.ref a] H (fun v _ => v = .bl true) fun _ _ _ => False) (ok : HOk P w H s1.heap) (only : ∀ b u, H b = some u → b = a ∧ u = .frz o (.lst (ns.map V.int)) ∧ K.lookup a = none) :
    codeAny (model P w) callerA (.call (.ref fa) ⟨[.ref a], []⟩) (GoodEnd s1) s1 := by
  have free : ∀ b, b ≠ a → H b = none := fun b n => by
    cases e : H b with
    | none => rfl
    | some u => exact absurd (only b u e).1 n
  have keepNs : ∀ {b : Addr} {m : Str → Option Value}, s1.heap.Ns b m → (hidT s1.heap H).Ns b m := by
    rintro b m ⟨ob, es, ep, e, d, r⟩
    refine ⟨ob, es, ep, hidT_get e (free b ?_), d, r⟩
    rintro rfl
    rw [ha] at e
    cases e
    exact hd _ _ d
  have kb : K.In (hidT s1.heap H) := fun b ob e => hidT_get (ko b ob e) (by
    cases q : H b with
    | none => rfl
    | some u =>
      obtain ⟨rfl, _, z⟩ := only b u q
      rw [z] at e
      cases e)
  obtain ⟨mc, l1, l2⟩ := hlim
  have M : Mod K mg (hidT s1.heap H) := ⟨kb, keepNs hn, ⟨mb, keepNs hb, hbb⟩, ⟨mc, keepNs l1, l2⟩⟩
  have e0 : Env0 P w K mg (hidT s1.heap H) callerA [] s1 H :=
    { frames := rfl, mod := M, bs := fun _ _ e => of_hidT e, bsz := Nat.le_of_eq (hidT_size _ _), funs := trivial, frf := fun _ z => (by cases z), hok := ok, bare := .of_eq hg }
  refine codeAny_mono ((F _ kb (keepNs hn)).run callerA rfl [] s1 H _ [.ref a] [.ref a] _ _ hr e0 (hbind s1 (.ref a)) (.cons rfl .nil) hs) ?_
  intro r s' z
  match r, z with
  | .error _, z => exact z.elim
  | .ok .next, z => exact z.elim
  | .ok .brk, z => exact z.elim
  | .ok .cont, z => exact z.elim
  | .ok (.ret u), ⟨v, H', os, bare, un, ok', rv, q⟩ =>
    cases (show v = V.bl true from q)
    cases (show u = Value.bool true from rv)
    refine ⟨rfl, OldK.of_keep fun b ob e => ?_, os, bare⟩
    cases q : H b with
    | none => exact un.keep b ob e q (fun z => by cases z) (by simp)
    | some uu =>
      obtain ⟨rfl, rfl, _⟩ := only b uu q
      rw [ha] at e
      cases e
      exact (ok' _ _ (un.frzs _ _ _ q)).1
/-- the law's call, its promise told where no repr runs -/
theorem law_callG (hn : s1.heap.Ns mainGlobals mg) (hb : s1.heap.Ns builtinsNs mb) (hbb : ∀ x : Str, x ≠ "__name__" → mb x = bootBuiltins x) (hlim : s1.heap.NoLimit) (hg : s1.gens = #[]) (ko : K.In s1.heap)
    (ha : s1.heap.get? a = some { cls := .type "list", data := .seq vs.toArray }) (hi : IntsAre vs ns) (hl : ns.length ≤ sizeLine) (hr : Room k callerA) (F : ∀ base : Heap, K.In base → base.Ns mainGlobals mg → FnG P w K mg base k fa fd [x] sp)
    (hbind : ∀ (s : Shared) (u : Value), BindsTo s fd ⟨[u], []⟩ [(x, u)]) (hs : ∀ H : Hp, SqL K H a (ns.map V.int) → sp [.ref a] H (fun v _ => v = .bl true) fun _ _ _ => False) :
    codeAny (model P w) callerA (.call (.ref fa) ⟨[.ref a], []⟩) (GoodEnd s1) s1 := by
  have rv := vals_ints hi
  have nd : ∀ es ep, (Data.seq vs.toArray : Data) ≠ .dict es ep := fun es ep z => by cases z
  cases hk : K.lookup a with
  | some o =>
    have e := ko a o hk
    rw [ha] at e
    cases e
    refine start_at (ns := ns) hn hb hbb hlim hg ko ha nd hr F hbind (H := fun _ => none) (hs _ (.inr ⟨_, vs.toArray, _, hk, rfl, rfl, rfl, ?_, by simpa using rv⟩)) (fun b u z => (by cases z)) (fun b u z => (by cases z))
    rw [List.size_toArray, hi.length]
    exact hl
  | none =>
    let o : Obj := { cls := .type "list", data := .seq vs.toArray }
    have at_ : ∀ b u, (fun b => if b = a then some (HO.frz o (.lst (ns.map V.int))) else none : Hp) b = some u → b = a ∧ u = .frz o (.lst (ns.map V.int)) := by
      intro b u z
      by_cases e : b = a
      · subst e
        have z' : some (HO.frz o (.lst (ns.map V.int))) = some u := by simpa using z
        cases z'
        exact ⟨rfl, rfl⟩
      · simp [e] at z
    refine start_at hn hb hbb hlim hg ko ha nd hr F hbind (H := fun b => if b = a then some (.frz o (.lst (ns.map V.int))) else none) (hs _ (.inl (.inr ⟨o, if_pos rfl⟩))) (fun b u z => ?_) (fun b u z => ⟨(at_ b u z).1, (at_ b u z).2, hk⟩)
    obtain ⟨rfl, rfl⟩ := at_ b u z
    exact ⟨ha, by rw [List.length_map]; exact hl, vs, _, rv, ha⟩
end
/-- the goal that the head leaves -/
theorem walk_ofG {l : PySem.W.OpenLaw} {n k : Nat} {q : Program} {loose : List Str} {XP : (Str → Option Value) → Heap → Prop} {YP : World → Heap → Prop} {d : DefRec} {K : Params → PySem.W.Frag} {sp : PySem.W.Frag → Sp} {x : Str} (hn : l.most = some n) (hn2 : n ≤ sizeLine)
    (hdf : d.params.defaults = []) (hr : Room k callerA) (hY : ∀ (w : World) (h : Heap), YP w h → (K w.params).In h)
    (F : ∀ (w : World) (mg : Str → Option Value) (fa : Addr) (h : Heap), (K w.params).In h → h.Ns mainGlobals mg → mg d.name = some (.ref fa) → ∃ fd : FuncData, (∀ (s : Shared) (u : Value), BindsTo s fd ⟨[u], []⟩ [(x, u)]) ∧
      ∀ base : Heap, (K w.params).In base → base.Ns mainGlobals mg → FnG l.prog w (K w.params) mg base k fa fd [x] (sp (K w.params)))
    (hs : ∀ (K : PySem.W.Frag) (H : Hp) (a : Addr) (ns : List Int), ns.length ≤ n → SqL K H a (ns.map V.int) → sp K [.ref a] H (fun v _ => v = .bl true) fun _ _ _ => False) :
    PySem.W.WalkO q loose XP YP l.row.toRowW d [] (fun f vs => PySem.call f vs) :=
  Att.attach_call hn hdf fun w s0 s1 mg mb fa o pm cd doc a vs ns G Y ho hd hcd hmg hobj hints hlen hg => by
    have ko := hY w _ Y
    obtain ⟨fd, hb, hF⟩ := F w mg fa _ ko G.T.g hmg
    exact law_callG G.T.g G.T.b G.T.builtins G.T.nolimit hg ko hobj hints (Nat.le_trans hlen hn2) hr hF hb fun H hS => hs _ H a ns hlen hS
end GF
namespace GF
open PySem PySem.Spec PyProof.Rows L2
/-! ### powers of great ints -/
def CPowW (i j : Int) : Prop := 0 ≤ j ∧ (Builtin.Int.intBits i : Int) * j ≤ 2 ^ 27
theorem op_powW {X : Cx} : OpR X (binaryOp .Pow) (rI CPowW fun i j => .int (i ^ j.toNat)) := opI fun _ _ _ _ _ _ _ hc q => PyProof.Rows.pow_int hc.1 hc.2 q
theorem pow3_ok {i : Int} {n : Nat} (h : i.natAbs < 2 ^ n) (hn : n ≤ 10000) : CPowW i 3 := ⟨by decide, by have := PyProof.Rows.intBits_le h; omega⟩
/-! ### data of any nesting, as it is tracked -/
mutual
inductive Sh (H : Hp) : V → PyData → Prop
  | non : Sh H .non .none
  | bl (b : Bool) : Sh H (.bl b) (.bool b)
  | int (i : Int) : Sh H (.int i) (.int i)
  | str (x : Str) : Sh H (.str x) (.str x)
  | lst {a : Addr} {xs : List V} {ds : List PyData} (h : H a = some (.lst xs)) (r : ShAll H xs ds) : Sh H (.ref a) (.list ds)
  | tup {a : Addr} {xs : List V} {ds : List PyData} (h : H a = some (.tup xs)) (r : ShAll H xs ds) : Sh H (.ref a) (.tuple ds)
  | dict {a : Addr} {kvs : List (Key × V)} {ds : List (PyData × PyData)} (h : Rd H a (.dK kvs)) (r : ShKv H kvs ds) : Sh H (.ref a) (.dict ds)
inductive ShAll (H : Hp) : List V → List PyData → Prop
  | nil : ShAll H [] []
  | cons {v : V} {vs : List V} {d : PyData} {ds : List PyData} (h : Sh H v d) (t : ShAll H vs ds) : ShAll H (v :: vs) (d :: ds)
inductive ShKv (H : Hp) : List (Key × V) → List (PyData × PyData) → Prop
  | nil : ShKv H [] []
  | cons {k : Key} {v : V} {vs : List (Key × V)} {d : PyData} {ds : List (PyData × PyData)} (h : Sh H v d) (t : ShKv H vs ds) : ShKv H ((k, v) :: vs) ((match k with | .inl i => .int i | .inr x => .str x, d) :: ds)
end
section
variable {X : Cx} {pins : List (Addr × Obj)} {σ : L2.St} {H : Hp} {s : Shared}
/-- what is told of such a datum in the heap: how it reads, and that repr goes through -/
def Tells (prog : Program) (w : World) (h : Heap) (d : PyData) (u : Value) : Prop := ∃ as bs, Reads h u d as ∧ ReadAtMost h d.depth bs ∧ ReprK prog w bs h d.depth u d.shown
def TellsAll (prog : Program) (w : World) (h : Heap) (ds : List PyData) (us : List Value) : Prop := ∃ as bs, ReadsAll h us ds as ∧ ReadAtMost h (PyData.depthAll ds) bs ∧ ReprAllK prog w bs h (PyData.depthAll ds) us (PyData.shownAll ds)
theorem TellsAll.nil {prog : Program} {w : World} {h : Heap} : TellsAll prog w h [] [] := ⟨_, [], .nil, fun _ z => (by cases z), by simp only [PyData.shownAll]; exact .nil⟩
theorem depth_cons (d : PyData) (ds : List PyData) : d.depth ≤ PyData.depthAll (d :: ds) ∧ PyData.depthAll ds ≤ PyData.depthAll (d :: ds) := by
  simp only [PyData.depthAll]
  omega
theorem TellsAll.cons {prog : Program} {w : World} {h : Heap} {d : PyData} {ds : List PyData} {u : Value} {us : List Value} (a : Tells prog w h d u) (b : TellsAll prog w h ds us) : TellsAll prog w h (d :: ds) (u :: us) := by
  obtain ⟨a1, b1, r1, m1, k1⟩ := a
  obtain ⟨a2, b2, r2, m2, k2⟩ := b
  obtain ⟨e1, e2⟩ := depth_cons d ds
  refine ⟨_, b1 ++ b2, .cons r1 r2, (m1.mono e1).append (m2.mono e2), ?_⟩
  simp only [PyData.shownAll]
  exact .cons ((k1.more fun b hb => List.mem_append_left _ hb).level_le e1) (k2.more_le (fun b hb => List.mem_append_right _ hb) e2)
theorem shown_key_le (kvs : List (PyData × PyData)) : PyData.depthAll (kvs.map (·.1)) ≤ PyData.depthKv kvs ∧ PyData.depthAll (kvs.map (·.2)) ≤ PyData.depthKv kvs := ⟨PyData.depthAll_keys_le kvs, PyData.depthAll_vals_le kvs⟩
mutual
theorem Sh.tells (I : Inv X pins σ H s) : ∀ (d : PyData) (v : V) (u : Value), Sh H v d → RelV v u → d.showable = true → d.shown.length ≤ sizeLine → Tells X.prog X.w s.heap d u
  | .none, _, _, h, r, _, _ => by cases h; cases r; exact ⟨_, [], .none, fun _ z => (by cases z), by simp only [PyData.shown]; exact .of_is ReprIs.none _ _ _⟩
  | .bool b, _, _, h, r, _, _ => by cases h; cases r; exact ⟨_, [], .bool b, fun _ z => (by cases z), by simp only [PyData.shown]; exact .of_is (ReprIs.bool b) _ _ _⟩
  | .int i, _, _, h, r, hw, _ => by cases h; obtain ⟨t, rfl⟩ := r; exact ⟨_, [], .int i t, fun _ z => (by cases z), by simp only [PyData.shown]; exact .of_is (ReprIs.int t (by simpa [PyData.showable] using hw)) _ _ _⟩
  | .str x, _, _, h, r, _, hz => by cases h; obtain ⟨t, rfl⟩ := r; exact ⟨_, [], .str x t, fun _ z => (by cases z), by simp only [PyData.shown] at hz ⊢; exact .of_is (ReprIs.str x t hz) _ _ _⟩
  | .list ds, _, _, h, r, hw, hz => by
    cases h with
    | lst ha ra =>
      cases r
      obtain ⟨_, its, n, rv, e⟩ := I.hok _ _ ha
      simp only [PyData.shown] at hz
      obtain ⟨as, bs, q1, q2, q3⟩ := ShAll.tells I ds _ its ra rv (by simpa [PyData.showable] using hw) fun t ht => Nat.le_trans (listText_mem_le ht) hz
      have rd : Reads s.heap _ (.list ds) _ := .list e rfl rfl q1
      have na := not_mem_of_deeper rd (by simp only [PyData.depth]; omega) q2
      refine ⟨_, _, rd, ReadAtMost.cons rd (by simp only [PyData.depth]; omega) q2, ?_⟩
      simp only [PyData.depth, PyData.shown]
      cases its with
      | nil =>
        cases q1
        simp only [PyData.shownAll, listText_nil]
        exact ReprK.listEmpty e rfl rfl
      | cons x l => exact ReprK.list e rfl rfl na (by simpa using q3.length_eq) fun i y ey => q3.item i y (by simpa using ey)
  | .tuple ds, _, _, h, r, hw, hz => by
    cases h with
    | tup ha ra =>
      cases r
      obtain ⟨_, its, rv, o, e, c, n, dd⟩ := I.hok _ _ ha
      simp only [PyData.shown] at hz
      obtain ⟨as, bs, q1, q2, q3⟩ := ShAll.tells I ds _ its ra rv (by simpa [PyData.showable] using hw) fun t ht => Nat.le_trans (tupleText_mem_le ht) hz
      have rd : Reads s.heap _ (.tuple ds) _ := .tuple e c dd q1
      have na := not_mem_of_deeper rd (by simp only [PyData.depth]; omega) q2
      refine ⟨_, _, rd, ReadAtMost.cons rd (by simp only [PyData.depth]; omega) q2, ?_⟩
      simp only [PyData.depth, PyData.shown]
      exact ReprK.tuple e c dd na q3
  | .dict ds, _, _, h, r, hw, hz => by
    cases h with
    | dict ha ra =>
      cases r
      obtain ⟨_, hs, vs, rv, o, es, ep, e, c, dd, _, pr, _⟩ := (show ObjOk X.prog X.w H s.heap _ (.dK _) from rd_of I.hok ha)
      simp only [PyData.shown] at hz
      obtain ⟨w1, w2⟩ := PyData.showableKv_split ds (by simpa [PyData.showable] using hw)
      obtain ⟨⟨a1, b1, r1, m1, k1⟩, a2, b2, r2, m2, k2⟩ := ShKv.tells I ds _ vs es.toList ra rv pr w1 w2 (fun t ht => let ⟨p, hp, hl⟩ := PyData.shownKv_key_le ds t ht; Nat.le_trans hl (Nat.le_trans (dictText_mem_le hp) hz))
        (fun t ht => let ⟨p, hp, hl⟩ := PyData.shownKv_val_le ds t ht; Nat.le_trans hl (Nat.le_trans (dictText_mem_le hp) hz))
      obtain ⟨d1, d2⟩ := shown_key_le ds
      have rd : Reads s.heap _ (.dict ds) _ := .dict e c.1 dd r1 r2
      have mm := (m1.mono d1).append (m2.mono d2)
      have na := not_mem_of_deeper rd (by simp only [PyData.depth]; omega) mm
      refine ⟨_, _, rd, ReadAtMost.cons rd (by simp only [PyData.depth]; omega) mm, ?_⟩
      simp only [PyData.depth, PyData.shown, PyData.shownKv_eq]
      exact ReprK.dict e c.1 dd hs na (ReprEntriesK.of_two es.toList _ _ (k1.more_le (fun b hb => List.mem_append_left _ hb) d1) (k2.more_le (fun b hb => List.mem_append_right _ hb) d2))
theorem ShAll.tells (I : Inv X pins σ H s) : ∀ (ds : List PyData) (vs : List V) (us : List Value), ShAll H vs ds → Vals vs us → PyData.showableAll ds = true → (∀ t ∈ PyData.shownAll ds, t.length ≤ sizeLine) → TellsAll X.prog X.w s.heap ds us
  | [], _, _, h, r, _, _ => by cases h; cases r; exact .nil
  | d :: ds, _, _, h, r, hw, hz => by
    cases h with
    | cons h t =>
      cases r with
      | cons r1 r2 =>
        simp only [PyData.showableAll, Bool.and_eq_true] at hw
        simp only [PyData.shownAll] at hz
        exact .cons (Sh.tells I d _ _ h r1 hw.1 (hz _ List.mem_cons_self)) (ShAll.tells I ds _ _ t r2 hw.2 fun t ht => hz t (List.mem_cons_of_mem _ ht))
theorem ShKv.tells (I : Inv X pins σ H s) : ∀ (ds : List (PyData × PyData)) (kvs : List (Key × V)) (us : List (Key × Value)) (es : List DictEntry), ShKv H kvs ds → KV kvs us → Pairs (mixKind X.prog X.w) es us → PyData.showableAll (ds.map (·.1)) = true → PyData.showableAll (ds.map (·.2)) = true →
    (∀ t ∈ PyData.shownAll (ds.map (·.1)), t.length ≤ sizeLine) → (∀ t ∈ PyData.shownAll (ds.map (·.2)), t.length ≤ sizeLine) → TellsAll X.prog X.w s.heap (ds.map (·.1)) (es.map (·.key)) ∧ TellsAll X.prog X.w s.heap (ds.map (·.2)) (es.map (·.val))
  | [], _, _, _, h, r, p, _, _, _, _ => by
    cases h
    unfold KV at r
    cases r
    cases p
    exact ⟨.nil, .nil⟩
  | d :: ds, _, _, _, h, r, p, w1, w2, z1, z2 => by
    cases h with
    | @cons k v vs d ds h t =>
      unfold KV at r
      cases r with
      | @cons _ q _ qs r1 r2 =>
        obtain ⟨r1a, r1b⟩ := r1
        cases p with
        | @cons e _ es _ p1 p2 p3 =>
          simp only [List.map_cons, PyData.showableAll, Bool.and_eq_true] at w1 w2
          simp only [List.map_cons, PyData.shownAll] at z1 z2
          obtain ⟨t1, t2⟩ := ShKv.tells I ds vs qs es t r2 p3 w1.2 w2.2 (fun t ht => z1 t (List.mem_cons_of_mem _ ht)) (fun t ht => z2 t (List.mem_cons_of_mem _ ht))
          have tv := Sh.tells I d _ _ h r1b w2.1 (z2 _ List.mem_cons_self)
          rw [← p2] at tv
          refine ⟨.cons ?_ t1, .cons tv t2⟩
          have p1' : keyIs q.1 e.key = true := p1
          rw [← r1a] at p1'
          cases k with
          | inl i =>
            obtain ⟨t, ee⟩ := Value.isInt_shape (k := i) (v := e.key) p1'
            show Tells _ _ _ _ e.key
            rw [ee]
            exact ⟨_, [], .int i t, fun _ z => (by cases z), by simp only [PyData.shown]; exact .of_is (ReprIs.int t (by simpa [PyData.showable] using w1.1)) _ _ _⟩
          | inr x =>
            obtain ⟨t, ee⟩ := Value.isStrOf_shape (x := x) (v := e.key) p1'
            show Tells _ _ _ _ e.key
            rw [ee]
            exact ⟨_, [], .str x t, fun _ z => (by cases z), by have := z1 _ List.mem_cons_self; simp only [PyData.shown] at this ⊢; exact .of_is (ReprIs.str x t this) _ _ _⟩
end
end
/-- repr of a list or a dict -/
def rRepr : List V → Hp → VK → Prop := fun xs H Q => ∃ (a : Addr) (d : PyData), xs = [.ref a] ∧ Sh H (.ref a) d ∧ d.showable = true ∧ d.depth ≤ 60 ∧ d.shown.length ≤ sizeLine ∧ Q (.str d.shown) H
theorem call_reprD {X : Cx} (hg : X.A.guards = some []) (hu : X.A.units + 64 < cLine) : CallR X (.builtin "repr") rRepr := by
  intro pins s σ H xs us Q I r h
  obtain ⟨a, d, rfl, sh, hw, hd, hz, q⟩ := h
  obtain ⟨u, rfl, ru⟩ := vals1 r
  cases ru
  have fin : ∀ (h' : Heap) (t : Tok) (tk : Nat), (∀ b o, s.heap.get? b = some o → h'.get? b = some o) → ∃ x t', Value.str d.shown t = .str x t' ∧ EP X pins σ Q (.str d.shown t) { s with heap := h', toks := tk } :=
    fun h' t tk hk => ⟨_, _, rfl, .str d.shown, H, I.kept hk, ⟨t, rfl⟩, q⟩
  cases sh with
  | @lst _ xs ds ha ra =>
    obtain ⟨_, its, n, rv, e⟩ := I.hok _ _ ha
    simp only [PyData.shown] at hz
    simp only [PyData.depth] at hd
    obtain ⟨as, bs, q1, q2, q3⟩ := ShAll.tells I ds _ its ra rv (by simpa [PyData.showable] using hw) fun t ht => Nat.le_trans (listText_mem_le ht) hz
    have rd : Reads s.heap _ (.list ds) _ := .list e rfl rfl q1
    have na := not_mem_of_deeper rd (by simp only [PyData.depth]; omega) q2
    refine call_repr_slot (by omega) ⟨_, e, rfl⟩ F.slot_list_repr.toG ?_
    simp only [PyData.shown] at fin
    cases its with
    | nil =>
      cases q1
      simp only [PyData.shownAll, listText_nil] at fin
      exact call_list_repr_empty ⟨_, e, rfl⟩ e rfl (fin s.heap _ _ fun _ _ z => z)
    | cons x l => exact call_list_reprK e rfl rfl na (by simpa using q3.length_eq) (fun i y ey => q3.item i y (by simpa using ey)) hg (fun b _ => Clear.nil b) (by show X.A.units + 1 + _ < cLine; omega) (fun _ _ z => z) (fun h' u tk hk => fin h' u tk hk) hz
  | @tup _ xs ds ha ra =>
    obtain ⟨_, its, rv, o, e, c, n, dd⟩ := I.hok _ _ ha
    simp only [PyData.shown] at hz
    simp only [PyData.depth] at hd
    obtain ⟨as, bs, q1, q2, q3⟩ := ShAll.tells I ds _ its ra rv (by simpa [PyData.showable] using hw) fun t ht => Nat.le_trans (tupleText_mem_le ht) hz
    have rd : Reads s.heap _ (.tuple ds) _ := .tuple e c dd q1
    have na := not_mem_of_deeper rd (by simp only [PyData.depth]; omega) q2
    refine call_repr_slot (by omega) ⟨_, e, c⟩ F.slot_tuple_repr ?_
    simp only [PyData.shown] at fin
    exact call_tuple_reprK e c dd na q3 hg (fun b _ => Clear.nil b) (by show X.A.units + 1 + _ < cLine; omega) (fun _ _ z => z) (fun h' u tk hk => fin h' u tk hk) hz
  | @dict _ kvs ds ha ra =>
    obtain ⟨_, hs, vs, rv, o, es, ep, e, c, dd, _, pr, _⟩ := (show ObjOk X.prog X.w H s.heap _ (.dK _) from rd_of I.hok ha)
    simp only [PyData.shown] at hz
    simp only [PyData.depth] at hd
    obtain ⟨w1, w2⟩ := PyData.showableKv_split ds (by simpa [PyData.showable] using hw)
    obtain ⟨⟨a1, b1, r1, m1, k1⟩, a2, b2, r2, m2, k2⟩ := ShKv.tells I ds _ vs es.toList ra rv pr w1 w2 (fun t ht => let ⟨p, hp, hl⟩ := PyData.shownKv_key_le ds t ht; Nat.le_trans hl (Nat.le_trans (dictText_mem_le hp) hz))
      (fun t ht => let ⟨p, hp, hl⟩ := PyData.shownKv_val_le ds t ht; Nat.le_trans hl (Nat.le_trans (dictText_mem_le hp) hz))
    obtain ⟨d1, d2⟩ := shown_key_le ds
    have rd : Reads s.heap _ (.dict ds) _ := .dict e c.1 dd r1 r2
    have mm := (m1.mono d1).append (m2.mono d2)
    have na := not_mem_of_deeper rd (by simp only [PyData.depth]; omega) mm
    refine call_repr_slot (by omega) ⟨_, e, c.1⟩ F.slot_dict_repr ?_
    simp only [PyData.shown, PyData.shownKv_eq] at fin hz
    exact call_dict_reprK e c.1 dd hs na (ReprEntriesK.of_two es.toList _ _ (k1.more_le (fun b hb => List.mem_append_left _ hb) d1) (k2.more_le (fun b hb => List.mem_append_right _ hb) d2)) hg (fun b _ => Clear.nil b)
      (by show X.A.units + 1 + _ < cLine; omega) (fun _ _ z => z) (fun h' u tk hk => fin h' u tk hk) hz
end GF
namespace PD
open PySem PySem.Spec PyProof.Rows L2 GF
/-! ### data as trees -/
inductive D where
  | non
  | bl (b : Bool)
  | int (i : Int)
  | str (s : Str)
  | lst (xs : List D)
  | tup (xs : List D)
  | dct (kvs : List (Key × D))
  | dtt (kvs : List (List Key × D))
  | obj (c : Str) (fs : List (Str × D))
  | scr (xs : List Int)
/-- the value of what is no object -/
def av : D → Option V
  | .non => some .non
  | .bl b => some (.bl b)
  | .int i => some (.int i)
  | .str s => some (.str s)
  | _ => none
section
variable (K : PySem.W.Frag) (CA : Str → Addr) (Z : Hp)
mutual
/-- v stands in Z for the tree d -/
def Fz : D → V → Prop
  | .non, v => v = .non
  | .bl b, v => v = .bl b
  | .int i, v => v = .int i
  | .str s, v => v = .str s
  | .lst ds, v => ∃ a xs, v = .ref a ∧ Z a = some (.lst xs) ∧ ds.length ≤ sizeLine ∧ FzA ds xs
  | .tup ds, v => ∃ a xs, v = .ref a ∧ Z a = some (.tup xs) ∧ ds.length ≤ sizeLine ∧ FzA ds xs
  | .dct ks, v => ∃ a xs, v = .ref a ∧ Z a = some (.dK xs) ∧ ks.length ≤ sizeLine ∧ FzK ks xs
  | .dtt ks, v => ∃ a xs, v = .ref a ∧ Z a = some (.dT xs) ∧ ks.length ≤ sizeLine ∧ FzT ks xs
  | .obj c fs, v => ∃ a dx xs, v = .ref a ∧ Z a = some (.ins (CA c) dx xs) ∧ FzF fs xs
  | .scr ns, v => ∃ a, v = .ref a ∧ SqL K Z a (ns.map V.int)
def FzA : List D → List V → Prop
  | [], xs => xs = []
  | d :: ds, xs => ∃ v r, xs = v :: r ∧ Fz d v ∧ FzA ds r
def FzK : List (Key × D) → List (Key × V) → Prop
  | [], xs => xs = []
  | (k, d) :: ds, xs => ∃ v r, xs = (k, v) :: r ∧ Fz d v ∧ FzK ds r
def FzT : List (List Key × D) → List (List Key × V) → Prop
  | [], xs => xs = []
  | (k, d) :: ds, xs => ∃ v r, xs = (k, v) :: r ∧ Fz d v ∧ FzT ds r
def FzF : List (Str × D) → List (Str × V) → Prop
  | [], xs => xs = []
  | (k, d) :: ds, xs => ∃ v r, xs = (k, v) :: r ∧ Fz d v ∧ FzF ds r
end
end
section
variable {K : PySem.W.Frag} {CA : Str → Addr}
theorem sqL_same {Z Z' : Hp} {a : Addr} {xs : List V} (s : Same Z Z') (h : SqL K Z a xs) : SqL K Z' a xs := by
  rcases h with (h | ⟨o, h⟩) | h
  · exact .inl (.inl (s _ _ h))
  · exact .inl (.inr ⟨o, s _ _ h⟩)
  · exact .inr h
theorem sqT_same {Z Z' : Hp} {a : Addr} {xs : List V} (s : Same Z Z') (h : SqT K Z a xs) : SqT K Z' a xs := by
  rcases h with (h | ⟨o, h⟩) | h
  · exact .inl (.inl (s _ _ h))
  · exact .inl (.inr ⟨o, s _ _ h⟩)
  · exact .inr h
mutual
theorem Fz.same {Z Z' : Hp} (s : Same Z Z') : ∀ {d : D} {v : V}, Fz K CA Z d v → Fz K CA Z' d v
  | .non, _, h => h
  | .bl _, _, h => h
  | .int _, _, h => h
  | .str _, _, h => h
  | .lst _, _, h => let ⟨a, xs, e, h1, l, h2⟩ := h; ⟨a, xs, e, s _ _ h1, l, FzA.same s h2⟩
  | .tup _, _, h => let ⟨a, xs, e, h1, l, h2⟩ := h; ⟨a, xs, e, s _ _ h1, l, FzA.same s h2⟩
  | .dct _, _, h => let ⟨a, xs, e, h1, l, h2⟩ := h; ⟨a, xs, e, s _ _ h1, l, FzK.same s h2⟩
  | .dtt _, _, h => let ⟨a, xs, e, h1, l, h2⟩ := h; ⟨a, xs, e, s _ _ h1, l, FzT.same s h2⟩
  | .obj _ _, _, h => let ⟨a, dx, xs, e, h1, h2⟩ := h; ⟨a, dx, xs, e, s _ _ h1, FzF.same s h2⟩
  | .scr _, _, h => let ⟨a, e, h1⟩ := h; ⟨a, e, sqL_same s h1⟩
theorem FzA.same {Z Z' : Hp} (s : Same Z Z') : ∀ {ds : List D} {vs : List V}, FzA K CA Z ds vs → FzA K CA Z' ds vs
  | [], _, h => h
  | _ :: _, _, h => let ⟨v, r, e, h1, h2⟩ := h; ⟨v, r, e, Fz.same s h1, FzA.same s h2⟩
theorem FzK.same {Z Z' : Hp} (s : Same Z Z') : ∀ {ds : List (Key × D)} {vs : List (Key × V)}, FzK K CA Z ds vs → FzK K CA Z' ds vs
  | [], _, h => h
  | (_, _) :: _, _, h => let ⟨v, r, e, h1, h2⟩ := h; ⟨v, r, e, Fz.same s h1, FzK.same s h2⟩
theorem FzT.same {Z Z' : Hp} (s : Same Z Z') : ∀ {ds : List (List Key × D)} {vs : List (List Key × V)}, FzT K CA Z ds vs → FzT K CA Z' ds vs
  | [], _, h => h
  | (_, _) :: _, _, h => let ⟨v, r, e, h1, h2⟩ := h; ⟨v, r, e, Fz.same s h1, FzT.same s h2⟩
theorem FzF.same {Z Z' : Hp} (s : Same Z Z') : ∀ {ds : List (Str × D)} {vs : List (Str × V)}, FzF K CA Z ds vs → FzF K CA Z' ds vs
  | [], _, h => h
  | (_, _) :: _, _, h => let ⟨v, r, e, h1, h2⟩ := h; ⟨v, r, e, Fz.same s h1, FzF.same s h2⟩
end
end
end PD
namespace PD
open PySem PySem.Spec PyProof.Rows L2 GF
/-! ### owned trees, the world -/
/-- the heap with the locked dicts as dicts -/
def unl (H : Hp) : Hp := fun a => match H a with
  | some (.frz _ (.dK k)) => some (.dK k)
  | some (.frz _ (.dT k)) => some (.dT k)
  | o => o
def plain : HO → Bool
  | .frz _ _ => false
  | _ => true
theorem unl_none {H : Hp} {a : Addr} : unl H a = none ↔ H a = none := by
  unfold unl
  split <;> simp_all
theorem unl_of {H : Hp} {a : Addr} {o : HO} (h : H a = some o) (p : plain o = true) : unl H a = some o := by
  unfold unl
  split
  · rename_i e; rw [e] at h; cases h; cases p
  · rename_i e; rw [e] at h; cases h; cases p
  · exact h
theorem unl_back {H : Hp} {a : Addr} {o : HO} (h : unl H a = some o) (p : ∀ k, o ≠ .dK k) (q : ∀ k, o ≠ .dT k) : H a = some o := by
  unfold unl at h
  split at h
  · cases h; exact absurd rfl (p _)
  · cases h; exact absurd rfl (q _)
  · exact h
theorem unl_lst {H : Hp} {a : Addr} {xs : List V} (h : unl H a = some (.lst xs)) : H a = some (.lst xs) := unl_back h (by simp) (by simp)
theorem unl_tup {H : Hp} {a : Addr} {xs : List V} (h : unl H a = some (.tup xs)) : H a = some (.tup xs) := unl_back h (by simp) (by simp)
theorem unl_ins {H : Hp} {a C dx : Addr} {fs : List (Str × V)} (h : unl H a = some (.ins C dx fs)) : H a = some (.ins C dx fs) := unl_back h (by simp) (by simp)
theorem unl_own {H : Hp} {a x : Addr} (h : unl H a = some (.own x)) : H a = some (.own x) := unl_back h (by simp) (by simp)
theorem unl_frz {H : Hp} {a : Addr} {o : Obj} {u : HO} (h : unl H a = some (.frz o u)) : H a = some (.frz o u) := unl_back h (by simp) (by simp)
theorem unl_dK {H : Hp} {a : Addr} {k : List (Key × V)} (h : unl H a = some (.dK k)) : Rd H a (.dK k) := by
  unfold unl at h
  split at h
  · rename_i e; cases h; exact .inr ⟨_, e⟩
  · cases h
  · exact .inl h
theorem unl_dT {H : Hp} {a : Addr} {k : List (List Key × V)} (h : unl H a = some (.dT k)) : Rd H a (.dT k) := by
  unfold unl at h
  split at h
  · cases h
  · rename_i e; cases h; exact .inr ⟨_, e⟩
  · exact .inl h
theorem unl_upd {H : Hp} {p : Addr} {o : HO} (h : plain o = true) : unl (upd H p o) = upd (unl H) p o := by
  funext a
  by_cases e : a = p
  · subst e; rw [upd_same, unl_of upd_same h]
  · rw [upd_ne e]; unfold unl; rw [upd_ne e]
theorem unl_sqL {K : PySem.W.Frag} {H : Hp} {a : Addr} {xs : List V} (h : SqL K (unl H) a xs) : SqL K H a xs := by
  rcases h with (h | ⟨o, h⟩) | h
  · exact .inl (.inl (unl_lst h))
  · exact .inl (.inr ⟨o, unl_frz h⟩)
  · exact .inr h
theorem unl_sqT {K : PySem.W.Frag} {H : Hp} {a : Addr} {xs : List V} (h : SqT K (unl H) a xs) : SqT K H a xs := by
  rcases h with (h | ⟨o, h⟩) | h
  · exact .inl (.inl (unl_tup h))
  · exact .inl (.inr ⟨o, unl_frz h⟩)
  · exact .inr h
/-- Z with what stands at L in h -/
def pl (Z h : Hp) (L : List Addr) : Hp := fun a => if a ∈ L then h a else Z a
theorem pl_same {Z h : Hp} {L : List Addr} (zn : ∀ a ∈ L, Z a = none) : Same Z (pl Z h L) := fun a o e => by
  unfold pl
  rw [if_neg fun m => by rw [zn a m] at e; cases e]
  exact e
theorem pl_in {Z h : Hp} {L : List Addr} {a : Addr} (m : a ∈ L) : pl Z h L a = h a := if_pos m
theorem pl_sub {Z h : Hp} {L : List Addr} (s : Same Z h) : Same (pl Z h L) h := fun a o e => by
  unfold pl at e
  split at e
  · exact e
  · exact s _ _ e
/-- pairwise, the addresses one behind the other -/
def Al3 {α β : Type} (R : α → β → List Addr → Prop) : List α → List β → List Addr → Prop
  | [], xs, L => xs = [] ∧ L = []
  | d :: ds, xs, L => ∃ v r L1 L2, xs = v :: r ∧ L = L1 ++ L2 ∧ R d v L1 ∧ Al3 R ds r L2
theorem Al3.imp {α β : Type} {R S : α → β → List Addr → Prop} : ∀ {ds : List α} {xs : List β} {L : List Addr}, Al3 R ds xs L → (∀ d v l, d ∈ ds → R d v l → (∀ a ∈ l, a ∈ L) → S d v l) → Al3 S ds xs L
  | [], _, _, h, _ => h
  | _ :: _, _, _, h, f => by
    obtain ⟨v, r, L1, L2, e1, e2, h1, h2⟩ := h
    refine ⟨v, r, L1, L2, e1, e2, f _ _ _ List.mem_cons_self h1 fun a m => by rw [e2]; exact List.mem_append_left _ m, h2.imp fun d w l hd hr hl => f d w l (List.mem_cons_of_mem _ hd) hr fun a m => by rw [e2]; exact List.mem_append_right _ (hl a m)⟩
theorem Al3.length {α β : Type} {R : α → β → List Addr → Prop} : ∀ {ds : List α} {xs : List β} {L : List Addr}, Al3 R ds xs L → xs.length = ds.length
  | [], _, _, h => by rw [h.1]; rfl
  | _ :: _, _, _, h => by
    obtain ⟨v, r, L1, L2, e1, e2, h1, h2⟩ := h
    rw [e1, List.length_cons, List.length_cons, h2.length]
theorem Al3.append {α β : Type} {R : α → β → List Addr → Prop} : ∀ {ds es : List α} {xs ys : List β} {L M : List Addr}, Al3 R ds xs L → Al3 R es ys M → Al3 R (ds ++ es) (xs ++ ys) (L ++ M)
  | [], _, _, _, _, _, h, h' => by rw [h.1, h.2]; exact h'
  | _ :: _, _, _, _, _, _, h, h' => by
    obtain ⟨v, r, L1, L2, e1, e2, h1, h2⟩ := h
    exact ⟨v, _, L1, L2 ++ _, by rw [e1]; rfl, by rw [e2, List.append_assoc], h1, h2.append h'⟩
theorem Al3.one {α β : Type} {R : α → β → List Addr → Prop} {d : α} {v : β} {L : List Addr} (h : R d v L) : Al3 R [d] [v] L := ⟨v, [], L, [], rfl, (List.append_nil _).symm, h, rfl, rfl⟩
/-- entries -/
def KR {κ : Type} (R : D → V → List Addr → Prop) : κ × D → κ × V → List Addr → Prop := fun p q L => p.1 = q.1 ∧ R p.2 q.2 L
section
variable (K : PySem.W.Frag) (CA : Str → Addr) (Z h : Hp)
/-- down to m levels the nodes stand in h, at L; below they are frozen in Z -/
def Ow : Nat → D → V → List Addr → Prop
  | 0, d, v, L => L = [] ∧ Fz K CA Z d v
  | m + 1, .lst ds, v, L => ∃ a xs L', v = .ref a ∧ h a = some (.lst xs) ∧ ds.length ≤ sizeLine ∧ L = a :: L' ∧ Al3 (Ow m) ds xs L'
  | m + 1, .tup ds, v, L => ∃ a xs, v = .ref a ∧ Z a = some (.tup xs) ∧ ds.length ≤ sizeLine ∧ Al3 (Ow m) ds xs L
  | m + 1, .dct ks, v, L => ∃ a xs L', v = .ref a ∧ h a = some (.dK xs) ∧ ks.length ≤ sizeLine ∧ L = a :: L' ∧ Al3 (KR (Ow m)) ks xs L'
  | m + 1, .dtt ks, v, L => ∃ a xs L', v = .ref a ∧ h a = some (.dT xs) ∧ ks.length ≤ sizeLine ∧ L = a :: L' ∧ Al3 (KR (Ow m)) ks xs L'
  | m + 1, .obj c fs, v, L => ∃ a dx xs L', v = .ref a ∧ h a = some (.ins (CA c) dx xs) ∧ h dx = some (.own a) ∧ L = a :: dx :: L' ∧ Al3 (KR (Ow m)) fs xs L'
  | _ + 1, d, v, L => L = [] ∧ Fz K CA Z d v
end
section
variable {K : PySem.W.Frag} {CA : Str → Addr} {Z Z' h h' : Hp}
theorem Ow.frame (s : Same Z Z') : ∀ {m : Nat} {d : D} {v : V} {L : List Addr}, Ow K CA Z h m d v L → (∀ a ∈ L, h' a = h a) → Ow K CA Z' h' m d v L
  | 0, _, _, _, q, _ => ⟨q.1, q.2.same s⟩
  | m + 1, .lst ds, _, _, q, f => by
    obtain ⟨a, xs, L', e, q1, q2, e2, q3⟩ := q
    subst e2
    exact ⟨a, xs, L', e, (f a List.mem_cons_self).trans q1, q2, rfl, q3.imp fun d v l _ r hl => Ow.frame s r fun b hb => f b (List.mem_cons_of_mem _ (hl b hb))⟩
  | m + 1, .tup ds, _, _, q, f => by
    obtain ⟨a, xs, e, q1, q2, q3⟩ := q
    exact ⟨a, xs, e, s _ _ q1, q2, q3.imp fun d v l _ r hl => Ow.frame s r fun b hb => f b (hl b hb)⟩
  | m + 1, .dct ds, _, _, q, f => by
    obtain ⟨a, xs, L', e, q1, q2, e2, q3⟩ := q
    subst e2
    exact ⟨a, xs, L', e, (f a List.mem_cons_self).trans q1, q2, rfl, q3.imp fun d v l _ r hl => ⟨r.1, Ow.frame s r.2 fun b hb => f b (List.mem_cons_of_mem _ (hl b hb))⟩⟩
  | m + 1, .dtt ds, _, _, q, f => by
    obtain ⟨a, xs, L', e, q1, q2, e2, q3⟩ := q
    subst e2
    exact ⟨a, xs, L', e, (f a List.mem_cons_self).trans q1, q2, rfl, q3.imp fun d v l _ r hl => ⟨r.1, Ow.frame s r.2 fun b hb => f b (List.mem_cons_of_mem _ (hl b hb))⟩⟩
  | m + 1, .obj c ds, _, _, q, f => by
    obtain ⟨a, dx, xs, L', e, q1, q2, e2, q3⟩ := q
    subst e2
    exact ⟨a, dx, xs, L', e, (f a List.mem_cons_self).trans q1, (f dx (by simp)).trans q2, rfl, q3.imp fun d v l _ r hl => ⟨r.1, Ow.frame s r.2 fun b hb => f b (by simp [hl b hb])⟩⟩
  | _ + 1, .non, _, _, q, _ => ⟨q.1, q.2.same s⟩
  | _ + 1, .bl _, _, _, q, _ => ⟨q.1, q.2.same s⟩
  | _ + 1, .int _, _, _, q, _ => ⟨q.1, q.2.same s⟩
  | _ + 1, .str _, _, _, q, _ => ⟨q.1, q.2.same s⟩
  | _ + 1, .scr _, _, _, q, _ => ⟨q.1, q.2.same s⟩
theorem Ow.here : ∀ {m : Nat} {d : D} {v : V} {L : List Addr}, Ow K CA Z h m d v L → ∀ a ∈ L, h a ≠ none := by
  have all : ∀ {α β : Type} {R : α → β → List Addr → Prop} {ds : List α} {xs : List β} {L : List Addr}, Al3 R ds xs L → (∀ d v l, d ∈ ds → R d v l → ∀ a ∈ l, h a ≠ none) → ∀ a ∈ L, h a ≠ none := by
    intro α β R ds
    induction ds with
    | nil => intro xs L q _ a m; rw [q.2] at m; cases m
    | cons d ds ih =>
      intro xs L q f a m
      obtain ⟨v, r, L1, L2, e1, e2, h1, h2⟩ := q
      rw [e2] at m
      rcases List.mem_append.mp m with m | m
      · exact f _ _ _ List.mem_cons_self h1 a m
      · exact ih h2 (fun d v l hd => f d v l (List.mem_cons_of_mem _ hd)) a m
  intro m
  induction m with
  | zero => intro d v L q a ha; rw [q.1] at ha; cases ha
  | succ m ih =>
    intro d v L q a ha
    cases d with
    | lst ds =>
      obtain ⟨b, xs, L', e, q1, q2, e2, q3⟩ := q
      subst e2
      rcases List.mem_cons.mp ha with rfl | ha
      · rw [q1]; simp
      · exact all q3 (fun d v l _ r => ih r) a ha
    | tup ds =>
      obtain ⟨b, xs, e, q1, q2, q3⟩ := q
      exact all q3 (fun d v l _ r => ih r) a ha
    | dct ds =>
      obtain ⟨b, xs, L', e, q1, q2, e2, q3⟩ := q
      subst e2
      rcases List.mem_cons.mp ha with rfl | ha
      · rw [q1]; simp
      · exact all q3 (fun d v l _ r => ih r.2) a ha
    | dtt ds =>
      obtain ⟨b, xs, L', e, q1, q2, e2, q3⟩ := q
      subst e2
      rcases List.mem_cons.mp ha with rfl | ha
      · rw [q1]; simp
      · exact all q3 (fun d v l _ r => ih r.2) a ha
    | obj c ds =>
      obtain ⟨b, dx, xs, L', e, q1, q2, e2, q3⟩ := q
      subst e2
      rcases List.mem_cons.mp ha with rfl | ha
      · rw [q1]; simp
      · rcases List.mem_cons.mp ha with rfl | ha
        · rw [q2]; simp
        · exact all q3 (fun d v l _ r => ih r.2) a ha
    | _ => rw [q.1] at ha; cases ha
/-- no owned object is a tuple -/
theorem Ow.notTup : ∀ {m : Nat} {d : D} {v : V} {L : List Addr}, Ow K CA Z h m d v L → ∀ a ∈ L, ∀ xs, h a ≠ some (.tup xs) := by
  have all : ∀ {α β : Type} {R : α → β → List Addr → Prop} {ds : List α} {xs : List β} {L : List Addr}, Al3 R ds xs L → (∀ d v l, d ∈ ds → R d v l → ∀ a ∈ l, ∀ xs, h a ≠ some (.tup xs)) → ∀ a ∈ L, ∀ xs, h a ≠ some (.tup xs) := by
    intro α β R ds
    induction ds with
    | nil => intro xs L q _ a m; rw [q.2] at m; cases m
    | cons d ds ih =>
      intro xs L q f a m
      obtain ⟨v, r, L1, L2, e1, e2, h1, h2⟩ := q
      rw [e2] at m
      rcases List.mem_append.mp m with m | m
      · exact f _ _ _ List.mem_cons_self h1 a m
      · exact ih h2 (fun d v l hd => f d v l (List.mem_cons_of_mem _ hd)) a m
  intro m
  induction m with
  | zero => intro d v L q a ha; rw [q.1] at ha; cases ha
  | succ m ih =>
    intro d v L q a ha
    cases d with
    | lst ds =>
      obtain ⟨b, xs, L', e, q1, q2, e2, q3⟩ := q
      subst e2
      rcases List.mem_cons.mp ha with rfl | ha
      · rw [q1]; simp
      · exact all q3 (fun d v l _ r => ih r) a ha
    | tup ds =>
      obtain ⟨b, xs, e, q1, q2, q3⟩ := q
      exact all q3 (fun d v l _ r => ih r) a ha
    | dct ds =>
      obtain ⟨b, xs, L', e, q1, q2, e2, q3⟩ := q
      subst e2
      rcases List.mem_cons.mp ha with rfl | ha
      · rw [q1]; simp
      · exact all q3 (fun d v l _ r => ih r.2) a ha
    | dtt ds =>
      obtain ⟨b, xs, L', e, q1, q2, e2, q3⟩ := q
      subst e2
      rcases List.mem_cons.mp ha with rfl | ha
      · rw [q1]; simp
      · exact all q3 (fun d v l _ r => ih r.2) a ha
    | obj c ds =>
      obtain ⟨b, dx, xs, L', e, q1, q2, e2, q3⟩ := q
      subst e2
      rcases List.mem_cons.mp ha with rfl | ha
      · rw [q1]; simp
      · rcases List.mem_cons.mp ha with rfl | ha
        · rw [q2]; simp
        · exact all q3 (fun d v l _ r => ih r.2) a ha
    | _ => rw [q.1] at ha; cases ha
theorem Al3.fzA {R : D → V → List Addr → Prop} : ∀ {ds : List D} {xs : List V} {L : List Addr}, Al3 R ds xs L → (∀ d v l, d ∈ ds → R d v l → (∀ a ∈ l, a ∈ L) → Fz K CA Z d v) → FzA K CA Z ds xs
  | [], _, _, q, _ => q.1
  | _ :: _, _, _, q, f => by
    obtain ⟨v, r, L1, L2, e1, e2, h1, h2⟩ := q
    exact ⟨v, r, e1, f _ _ _ List.mem_cons_self h1 fun a m => by rw [e2]; exact List.mem_append_left _ m, h2.fzA fun d v l hd r hl => f d v l (List.mem_cons_of_mem _ hd) r fun a m => by rw [e2]; exact List.mem_append_right _ (hl a m)⟩
theorem Al3.fzK {R : D → V → List Addr → Prop} : ∀ {ds : List (Key × D)} {xs : List (Key × V)} {L : List Addr}, Al3 (KR R) ds xs L → (∀ d v l, R d v l → (∀ a ∈ l, a ∈ L) → Fz K CA Z d v) → FzK K CA Z ds xs
  | [], _, _, q, _ => q.1
  | (k, d) :: _, _, _, q, f => by
    obtain ⟨⟨k', v⟩, r, L1, L2, e1, e2, ⟨h0, h1⟩, h2⟩ := q
    cases h0
    exact ⟨v, r, e1, f _ _ _ h1 fun a m => by rw [e2]; exact List.mem_append_left _ m, h2.fzK fun d v l r hl => f d v l r fun a m => by rw [e2]; exact List.mem_append_right _ (hl a m)⟩
theorem Al3.fzT {R : D → V → List Addr → Prop} : ∀ {ds : List (List Key × D)} {xs : List (List Key × V)} {L : List Addr}, Al3 (KR R) ds xs L → (∀ d v l, R d v l → (∀ a ∈ l, a ∈ L) → Fz K CA Z d v) → FzT K CA Z ds xs
  | [], _, _, q, _ => q.1
  | (k, d) :: _, _, _, q, f => by
    obtain ⟨⟨k', v⟩, r, L1, L2, e1, e2, ⟨h0, h1⟩, h2⟩ := q
    cases h0
    exact ⟨v, r, e1, f _ _ _ h1 fun a m => by rw [e2]; exact List.mem_append_left _ m, h2.fzT fun d v l r hl => f d v l r fun a m => by rw [e2]; exact List.mem_append_right _ (hl a m)⟩
theorem Al3.fzF {R : D → V → List Addr → Prop} : ∀ {ds : List (Str × D)} {xs : List (Str × V)} {L : List Addr}, Al3 (KR R) ds xs L → (∀ d v l, R d v l → (∀ a ∈ l, a ∈ L) → Fz K CA Z d v) → FzF K CA Z ds xs
  | [], _, _, q, _ => q.1
  | (k, d) :: _, _, _, q, f => by
    obtain ⟨⟨k', v⟩, r, L1, L2, e1, e2, ⟨h0, h1⟩, h2⟩ := q
    cases h0
    exact ⟨v, r, e1, f _ _ _ h1 fun a m => by rw [e2]; exact List.mem_append_left _ m, h2.fzF fun d v l r hl => f d v l r fun a m => by rw [e2]; exact List.mem_append_right _ (hl a m)⟩
/-- an owned tree, frozen -/
theorem Ow.frz (s : Same Z Z') : ∀ {m : Nat} {d : D} {v : V} {L : List Addr}, Ow K CA Z h m d v L → (∀ a ∈ L, Z' a = h a) → Fz K CA Z' d v
  | 0, _, _, _, q, _ => q.2.same s
  | m + 1, .lst ds, _, _, q, f => by
    obtain ⟨a, xs, L', e, q1, q2, e2, q3⟩ := q
    subst e2
    exact ⟨a, xs, e, (f a List.mem_cons_self).trans q1, q2, q3.fzA fun d v l _ r hl => Ow.frz s r fun b hb => f b (List.mem_cons_of_mem _ (hl b hb))⟩
  | m + 1, .tup ds, _, _, q, f => by
    obtain ⟨a, xs, e, q1, q2, q3⟩ := q
    exact ⟨a, xs, e, s _ _ q1, q2, q3.fzA fun d v l _ r hl => Ow.frz s r fun b hb => f b (hl b hb)⟩
  | m + 1, .dct ds, _, _, q, f => by
    obtain ⟨a, xs, L', e, q1, q2, e2, q3⟩ := q
    subst e2
    exact ⟨a, xs, e, (f a List.mem_cons_self).trans q1, q2, q3.fzK fun d v l r hl => Ow.frz s r fun b hb => f b (List.mem_cons_of_mem _ (hl b hb))⟩
  | m + 1, .dtt ds, _, _, q, f => by
    obtain ⟨a, xs, L', e, q1, q2, e2, q3⟩ := q
    subst e2
    exact ⟨a, xs, e, (f a List.mem_cons_self).trans q1, q2, q3.fzT fun d v l r hl => Ow.frz s r fun b hb => f b (List.mem_cons_of_mem _ (hl b hb))⟩
  | m + 1, .obj c ds, _, _, q, f => by
    obtain ⟨a, dx, xs, L', e, q1, q2, e2, q3⟩ := q
    subst e2
    exact ⟨a, dx, xs, e, (f a List.mem_cons_self).trans q1, q3.fzF fun d v l r hl => Ow.frz s r fun b hb => f b (by simp [hl b hb])⟩
  | _ + 1, .non, _, _, q, _ => q.2.same s
  | _ + 1, .bl _, _, _, q, _ => q.2.same s
  | _ + 1, .int _, _, _, q, _ => q.2.same s
  | _ + 1, .str _, _, _, q, _ => q.2.same s
  | _ + 1, .scr _, _, _, q, _ => q.2.same s
/-- what is no object -/
theorem av_fz {d : D} {v : V} (e : av d = some v) : Fz K CA Z d v := by
  cases d <;> simp only [av] at e <;> first | (cases e; rfl) | cases e
theorem av_ow {m : Nat} {d : D} {v : V} (e : av d = some v) : Ow K CA Z h m d v [] := by
  cases m with
  | zero => exact ⟨rfl, av_fz e⟩
  | succ m => cases d <;> simp only [av] at e <;> first | (cases e; exact ⟨rfl, rfl⟩) | cases e
end
end PD
namespace PD
open PySem PySem.Spec PyProof.Rows L2 GF
/-! ### the state of a def's body -/
abbrev Ev := List (Option D)
/-- an exception: its class, the field that it keeps -/
structure Exc where
  c : Str
  d : Option (Str × D)
inductive Out (α : Type) where
  | ok (a : α) (e : Ev)
  | ex (x : Exc) (e : Ev)
abbrev DE := Ev → Option (Out D)
/-- what is fixed in a def: K, the classes' places, the slots whose values stay -/
structure Gc where
  K : PySem.W.Frag
  CA : Str → Addr
  pins : List Nat
  pv : Nat → V
/-- frozen things, the heap, what each slot owns -/
structure Wd where
  Z : Hp
  H : Hp
  Ls : Nat → List Addr
abbrev md (ms : List Nat) (i : Nat) : Nat := ms.getD i 0
structure Rel (G : Gc) (ms lk : List Nat) (w : Wd) (env : Ev) (σ : L2.St) : Prop where
  sub : Same w.Z (unl w.H)
  len : env.length = σ.length
  slot : ∀ (i : Nat) (d : D), env[i]? = some (some d) → ∃ v, σ[i]? = some (some v) ∧ Ow G.K G.CA w.Z (unl w.H) (md ms i) d v (w.Ls i)
  emp : ∀ i : Nat, (∀ d, env[i]? ≠ some (some d)) → w.Ls i = []
  nd : ∀ i, (w.Ls i).Nodup
  dj : ∀ i j, i ≠ j → ∀ a ∈ w.Ls i, a ∉ w.Ls j
  zn : ∀ i, ∀ a ∈ w.Ls i, w.Z a = none
  nl : ∀ i, i ∉ lk → ∀ a ∈ w.Ls i, unl w.H a = w.H a
  pin : ∀ i ∈ G.pins, σ[i]? = some (some (G.pv i))
  tz : ∀ a xs, w.H a = some (.tup xs) → w.Z a = some (.tup xs)
theorem Rel.there {G : Gc} {ms lk : List Nat} {w : Wd} {env : Ev} {σ : L2.St} (R : Rel G ms lk w env σ) {i : Nat} {a : Addr} (h : a ∈ w.Ls i) : w.H a ≠ none := by
  cases e : env[i]? with
  | none => rw [R.emp i fun d z => by rw [e] at z; cases z] at h; cases h
  | some o =>
    cases o with
    | none => rw [R.emp i fun d z => by rw [e] at z; cases z] at h; cases h
    | some d =>
      obtain ⟨v, _, q⟩ := R.slot i d e
      exact fun z => q.here a h (unl_none.mpr z)
/-- a dict's object -/
def isDk : HO → Bool
  | .dK _ => true
  | .dT _ => true
  | _ => false
structure Ext (E : List Nat) (w w' : Wd) : Prop where
  zz : Same w.Z w'.Z
  hh : ∀ a o, w.H a = some o → (∀ j ∈ E, a ∉ w.Ls j) → w'.H a = some o ∨ (w.Z a = some o ∧ isDk o = true ∧ ∃ od, w'.H a = some (.frz od o))
  zn : ∀ a, w'.Z a ≠ none → w.Z a = none → w.H a ≠ none → ∃ j ∈ E, a ∈ w.Ls j
  ll : ∀ j, j ∉ E → w'.Ls j = w.Ls j
  ln : ∀ j ∈ E, ∀ a ∈ w'.Ls j, w.H a ≠ none → ∃ i ∈ E, a ∈ w.Ls i
  al : ∀ a, w.H a ≠ none → w'.H a ≠ none
theorem Ext.refl {E : List Nat} {w : Wd} : Ext E w w := ⟨fun _ _ h => h, fun _ _ h _ => .inl h, fun _ h1 h2 => absurd h2 h1, fun _ _ => rfl, fun j hj a h _ => ⟨j, hj, h⟩, fun _ h => h⟩
theorem Ext.mono {E E' : List Nat} {w w' : Wd} (x : Ext E w w') (s : ∀ j ∈ E, j ∈ E') : Ext E' w w' := by
  refine ⟨x.zz, fun a o e n => x.hh a o e fun j hj => n j (s j hj), fun a h1 h2 h3 => ?_, fun j hj => x.ll j fun z => hj (s j z), fun j hj a ha hn => ?_, x.al⟩
  · obtain ⟨j, hj, q⟩ := x.zn a h1 h2 h3
    exact ⟨j, s j hj, q⟩
  · by_cases z : j ∈ E
    · obtain ⟨i, hi, q⟩ := x.ln j z a ha hn
      exact ⟨i, s i hi, q⟩
    · exact ⟨j, hj, by rw [← x.ll j z]; exact ha⟩
theorem Ext.trans {E : List Nat} {w w1 w2 : Wd} (x : Ext E w w1) (y : Ext E w1 w2) : Ext E w w2 := by
  refine ⟨fun a o e => y.zz a o (x.zz a o e), fun a o e n => ?_, fun a h1 h2 h3 => ?_, fun j hj => (y.ll j hj).trans (x.ll j hj), fun j hj a ha hn => ?_, fun a h => y.al a (x.al a h)⟩
  · have n1 : ∀ j ∈ E, a ∉ w1.Ls j := fun j hj ha => by
      obtain ⟨i, hi, q⟩ := x.ln j hj a ha (by rw [e]; simp)
      exact n i hi q
    rcases x.hh a o e n with h | ⟨h1, h2, od, h3⟩
    · rcases y.hh a o h n1 with g | ⟨g1, g2, g3⟩
      · exact .inl g
      · refine .inr ⟨?_, g2, g3⟩
        cases z : w.Z a with
        | none =>
          obtain ⟨j, hj, q⟩ := x.zn a (by rw [g1]; simp) z (by rw [e]; simp)
          exact absurd q (n j hj)
        | some u =>
          have := x.zz a u z
          rw [g1] at this
          exact this.symm
    · rcases y.hh a _ h3 n1 with g | ⟨g1, g2, _⟩
      · exact .inr ⟨h1, h2, od, g⟩
      · cases g2
  · by_cases z : w1.Z a = none
    · obtain ⟨j, hj, q⟩ := y.zn a h1 z (x.al a h3)
      obtain ⟨i, hi, q⟩ := x.ln j hj a q h3
      exact ⟨i, hi, q⟩
    · exact x.zn a z h2 h3
  · obtain ⟨i, hi, q⟩ := y.ln j hj a ha (x.al a hn)
    exact x.ln i hi a q hn
/-- a slot outside E owns what it owned -/
theorem Ext.back {E : List Nat} {w w' : Wd} (x : Ext E w w') {j : Nat} {a : Addr} (h : a ∈ w'.Ls j) (hn : w.H a ≠ none) : ∃ i, a ∈ w.Ls i ∧ (i = j ∨ i ∈ E) := by
  by_cases z : j ∈ E
  · obtain ⟨i, hi, q⟩ := x.ln j z a h hn
    exact ⟨i, q, .inr hi⟩
  · exact ⟨j, by rw [← x.ll j z]; exact h, .inl rfl⟩
/-- how a value is held: new and owned down to m levels; a slot's; readable only -/
inductive Kd where
  | own (m : Nat)
  | bor (m : Nat) (bs : List Nat)
  | tmp (bs : List Nat)
abbrev Kd.bs : Kd → List Nat
  | .own _ => []
  | .bor _ bs => bs
  | .tmp bs => bs
/-- how an item of such a thing is held -/
def Kd.chi : Kd → Kd
  | .own _ => .own 0
  | .bor (m + 2) bs => .bor (m + 1) bs
  | .bor _ _ => .own 0
  | .tmp bs => .tmp bs
def Kd.okc : Kd → Bool
  | .own (_ + 2) => false
  | _ => true
def Kd.okt : Kd → Bool
  | .bor (_ + 2) _ => false
  | _ => true
def ValR (G : Gc) (w : Wd) (d : D) (v : V) (L : List Addr) : Kd → Prop
  | .own m => Ow G.K G.CA w.Z (unl w.H) m d v L ∧ L.Nodup ∧ ∀ a ∈ L, w.Z a = none ∧ (∀ j, a ∉ w.Ls j) ∧ unl w.H a = w.H a
  | .bor m bs => Ow G.K G.CA w.Z (unl w.H) m d v L ∧ ∀ a ∈ L, ∃ j ∈ bs, a ∈ w.Ls j
  | .tmp bs => Fz G.K G.CA (pl w.Z (unl w.H) L) d v ∧ ∀ a ∈ L, w.Z a = none ∧ w.H a ≠ none ∧ ((∃ j ∈ bs, a ∈ w.Ls j) ∨ ∀ j, a ∉ w.Ls j)
/-- what a value is made of is new, or the slots' -/
def New (E : List Nat) (w : Wd) (bs : List Nat) (L : List Addr) : Prop := ∀ a ∈ L, w.H a ≠ none → ∃ j, (j ∈ E ∨ j ∈ bs) ∧ a ∈ w.Ls j
theorem New.nil {E : List Nat} {w : Wd} {bs : List Nat} : New E w bs [] := fun _ h => by cases h
theorem New.back {E : List Nat} {w w1 : Wd} {bs : List Nat} {L : List Addr} (n : New E w1 bs L) (x : Ext E w w1) : New E w bs L := fun a ha hn => by
  obtain ⟨j, hj, q⟩ := n a ha (x.al a hn)
  obtain ⟨i, q2, hi⟩ := x.back q hn
  rcases hi with e | hi
  · exact ⟨i, by rw [e]; exact hj, q2⟩
  · exact ⟨i, .inl hi, q2⟩
theorem New.mono {E E' : List Nat} {w : Wd} {bs bs' : List Nat} {L : List Addr} (n : New E w bs L) (s : ∀ j ∈ E, j ∈ E') (t : ∀ j ∈ bs, j ∈ bs') : New E' w bs' L := fun a ha hn => by
  obtain ⟨j, hj, q⟩ := n a ha hn
  exact ⟨j, hj.imp (s j) (t j), q⟩
theorem unl_eq {H H' : Hp} {a : Addr} (h : H' a = H a) : unl H' a = unl H a := by unfold unl; rw [h]
abbrev DZ (w : Wd) : Prop := (∀ i j, i ≠ j → ∀ a ∈ w.Ls i, a ∉ w.Ls j) ∧ ∀ i, ∀ a ∈ w.Ls i, w.Z a = none
theorem Rel.dz {G : Gc} {ms lk : List Nat} {w : Wd} {env : Ev} {σ : L2.St} (R : Rel G ms lk w env σ) : DZ w := ⟨R.dj, R.zn⟩
theorem Ext.keepAt {E : List Nat} {w w' : Wd} (x : Ext E w w') {a : Addr} (h : w.H a ≠ none) (n : ∀ j ∈ E, a ∉ w.Ls j) (z : w.Z a = none) : w'.H a = w.H a := by
  cases e : w.H a with
  | none => exact absurd e h
  | some o => exact (x.hh a o e n).resolve_right fun q => by rw [z] at q; cases q.1
/-- what is kept while other things change -/
theorem ValR.ext {G : Gc} {E : List Nat} {w w' : Wd} {d : D} {v : V} {L : List Addr} {k : Kd} (h : ValR G w d v L k) (x : Ext E w w') (hd : ∀ j ∈ k.bs, j ∉ E) (DZ : DZ w) : ValR G w' d v L k := by
  have R := DZ.1
  have free : ∀ {a : Addr}, w.H a ≠ none → (∀ j, a ∉ w.Ls j) → w.Z a = none → w'.Z a = none ∧ (∀ j, a ∉ w'.Ls j) ∧ w'.H a = w.H a := fun {a} h1 h2 h3 => by
    refine ⟨?_, fun j hj => ?_, x.keepAt h1 (fun j _ => h2 j) h3⟩
    · cases e : w'.Z a with
      | none => rfl
      | some o =>
        obtain ⟨j, _, q⟩ := x.zn a (by rw [e]; simp) h3 h1
        exact absurd q (h2 j)
    · obtain ⟨i, q, _⟩ := x.back hj h1
      exact h2 i q
  have held : ∀ {a : Addr} {bs : List Nat}, (∀ j ∈ bs, j ∉ E) → (∃ j ∈ bs, a ∈ w.Ls j) → w.H a ≠ none → w'.H a = w.H a ∧ ∃ j ∈ bs, a ∈ w'.Ls j := fun {a bs} hb ⟨j, hj, q⟩ hn => by
    refine ⟨x.keepAt hn (fun i hi z => ?_) (DZ.2 j a q), j, hj, by rw [x.ll j (hb j hj)]; exact q⟩
    by_cases e : i = j
    · subst e; exact hb i hj hi
    · exact R i j e a z q
  have zfree : ∀ {a : Addr} {bs : List Nat}, (∀ j ∈ bs, j ∉ E) → (∃ j ∈ bs, a ∈ w.Ls j) → w.H a ≠ none → w.Z a = none → w'.Z a = none := fun {a bs} hb ⟨j, hj, q⟩ hn hz => by
    cases e : w'.Z a with
    | none => rfl
    | some o =>
      obtain ⟨i, hi, q2⟩ := x.zn a (by rw [e]; simp) hz hn
      by_cases e : i = j
      · subst e; exact absurd hi (hb i hj)
      · exact absurd q (R i j e a q2)
  cases k with
  | own m =>
    obtain ⟨h1, h2, h3⟩ := h
    have hr := fun a ha => free (fun z => h1.here a ha (unl_none.mpr z)) (h3 a ha).2.1 (h3 a ha).1
    refine ⟨h1.frame x.zz fun a ha => unl_eq (hr a ha).2.2, h2, fun a ha => ⟨(hr a ha).1, (hr a ha).2.1, ?_⟩⟩
    rw [unl_eq (hr a ha).2.2, (hr a ha).2.2]
    exact (h3 a ha).2.2
  | bor m bs =>
    obtain ⟨h1, h2⟩ := h
    have hr := fun a ha => held hd (h2 a ha) fun z => h1.here a ha (unl_none.mpr z)
    exact ⟨h1.frame x.zz fun a ha => unl_eq (hr a ha).1, fun a ha => (hr a ha).2⟩
  | tmp bs =>
    obtain ⟨h1, h2⟩ := h
    refine ⟨h1.same fun a o e => ?_, fun a ha => ?_⟩
    · unfold pl at e ⊢
      by_cases ha : a ∈ L
      · rw [if_pos ha] at e ⊢
        obtain ⟨z1, z2, z3⟩ := h2 a ha
        rcases z3 with z3 | z3
        · rw [unl_eq (held hd z3 z2).1]; exact e
        · rw [unl_eq (free z2 z3 z1).2.2]; exact e
      · rw [if_neg ha] at e ⊢
        exact x.zz _ _ e
    · obtain ⟨z1, z2, z3⟩ := h2 a ha
      rcases z3 with z3 | z3
      · exact ⟨zfree hd z3 z2 z1, x.al a z2, .inl (held hd z3 z2).2⟩
      · obtain ⟨y1, y2, y3⟩ := free z2 z3 z1
        exact ⟨y1, x.al a z2, .inr y2⟩
/-- every value can be read -/
theorem ValR.rd {G : Gc} {w : Wd} {d : D} {v : V} {L : List Addr} {k : Kd} (h : ValR G w d v L k) (s : Same w.Z (unl w.H)) : Fz G.K G.CA (unl w.H) d v := by
  cases k with
  | own m => exact h.1.frz s fun a _ => rfl
  | bor m bs => exact h.1.frz s fun a _ => rfl
  | tmp bs => exact h.1.same (pl_sub s)
theorem ValR.atom {G : Gc} {w : Wd} {d : D} {v : V} (e : av d = some v) {m : Nat} : ValR G w d v [] (.own m) := ⟨av_ow e, List.nodup_nil, fun _ h => by cases h⟩
/-- what an exception keeps -/
def Pay (G : Gc) (w : Wd) (x : Exc) (p : Option Addr) : Prop := match x.d with
  | none => p = none
  | some (f, d) => ∃ a v, p = some a ∧ w.H a = some (.xd [(f, v)]) ∧ Fz G.K G.CA w.Z d v
section
variable (G : Gc) (ms lk : List Nat) (k : Kd) (E : List Nat) (XE : XK)
/-- what is wanted behind an expression's end o -/
def Fin (w : Wd) (σ : L2.St) (Q : VK) : Out D → Prop
  | .ok d env' => ∀ w' v L, Rel G ms lk w' env' σ → Ext E w w' → ValR G w' d v L k → New E w k.bs L → Q v w'.H
  | .ex x env' => ∀ w' p, Rel G ms lk w' env' σ → Ext E w w' → Pay G w' x p → XE (.ref (G.CA x.c)) p w'.H
/-- the reading: the expression does what c says -/
def tD (c : DE) : TE := fun σ H Q => ∃ w env o, w.H = H ∧ Rel G ms lk w env σ ∧ c env = some o ∧ Fin G ms lk k E XE w σ Q o
end
theorem Fin.step {G : Gc} {ms lk : List Nat} {k : Kd} {E : List Nat} {XE : XK} {w w1 : Wd} {σ : L2.St} {Q : VK} : ∀ {o : Out D}, Fin G ms lk k E XE w σ Q o → Ext E w w1 → Fin G ms lk k E XE w1 σ Q o
  | .ok _ _, h, x => fun w' v L R y V n => h w' v L R (x.trans y) V (n.back x)
  | .ex _ _, h, x => fun w' p R y P => h w' p R (x.trans y) P
/-- one thing behind the other -/
def bnd {α β : Type} (c : Ev → Option (Out α)) (f : α → Ev → Option (Out β)) : Ev → Option (Out β) := fun e => match c e with
  | some (.ok a e1) => f a e1
  | some (.ex x e1) => some (.ex x e1)
  | none => none
theorem tD.bind {G : Gc} {ms lk : List Nat} {k k1 : Kd} {E E1 : List Nat} {XE : XK} {w : Wd} {env : Ev} {σ : L2.St} {Q P : VK} {c : DE} {f : D → DE} {o : Out D} (R : Rel G ms lk w env σ) (ho : bnd c f env = some o) (F : Fin G ms lk k E XE w σ Q o)
    (hE : ∀ j ∈ E1, j ∈ E) (hp : ∀ w1 env1 d v L, Rel G ms lk w1 env1 σ → Ext E1 w w1 → ValR G w1 d v L k1 → New E1 w k1.bs L → f d env1 = some o → Fin G ms lk k E XE w1 σ Q o → P v w1.H) : tD G ms lk k1 E1 XE c σ w.H P := by
  unfold bnd at ho
  split at ho
  · rename_i d e1 he
    refine ⟨w, env, .ok d e1, rfl, R, he, fun w' v L R' x V n => hp w' e1 d v L R' x V n ho (F.step (x.mono hE))⟩
  · rename_i x e1 he
    cases ho
    exact ⟨w, env, .ex x e1, rfl, R, he, fun w' p R' x P => F w' p R' (x.mono hE) P⟩
  · cases ho
/-- the consequence -/
theorem _root_.L2.PE.weak {X : Cx} {e : Expr} {t t' : TE} (h : PE X e t) (i : ∀ σ H Q, t' σ H Q → t σ H Q) : PE X e t' := ⟨fun pins s σ H Q I q => h.run pins s σ H Q I (i σ H Q q)⟩
theorem _root_.L2.PT.weak {X : Cx} {e : Expr} {t t' : TT} (h : PT X e t) (i : ∀ σ H Q, t' σ H Q → t σ H Q) : PT X e t' := ⟨fun pins s σ H Q I q => h.run pins s σ H Q I (i σ H Q q)⟩
theorem _root_.L2.PS.weak {X : Cx} {e : Stmt} {t t' : TS} (h : PS X e t) (i : ∀ Dn σ H, t' Dn σ H → t Dn σ H) : PS X e t' := ⟨fun pins s σ H Q I q => h.run pins s σ H Q I (i Q σ H q)⟩
theorem _root_.L2.PSs.weak {X : Cx} {e : List Stmt} {t t' : TS} (h : PSs X e t) (i : ∀ Dn σ H, t' Dn σ H → t Dn σ H) : PSs X e t' := ⟨fun pins s σ H Q I q => h.run pins s σ H Q I (i Q σ H q)⟩
theorem _root_.L2.PA.weak {X : Cx} {e : List Expr} {t t' : TA} (h : PA X e t) (i : ∀ σ H Q, t' σ H Q → t σ H Q) : PA X e t' := ⟨fun pos pins s σ H Q I q => h.run pos pins s σ H Q I (i σ H Q q)⟩
end PD
namespace PD
open PySem PySem.Spec PyProof.Rows L2 GF
/-! ### expressions: constants, names, operators, tests -/
def dC (d : D) : DE := fun e => some (.ok d e)
def dV (i : Nat) : DE := fun e => match e[i]? with
  | some (some d) => some (.ok d e)
  | _ => none
def lf {α : Type} (o : Option α) : Ev → Option (Out α) := fun e => match o with
  | some d => some (.ok d e)
  | none => none
def d1 (g : D → Option D) (a : DE) : DE := bnd a fun x => lf (g x)
def d2 (g : D → D → Option D) (a b : DE) : DE := bnd a fun x => bnd b fun y => lf (g x y)
section
variable {X : Cx} {G : Gc} {ms lk : List Nat} {k ka kb kc : Kd} {E Ea Eb Ec : List Nat} {XE : XK} {pos : Pos} {a b c e : Expr} {ca cb cc : DE}
theorem se_val {v : V} {d : D} (h : PE X e (tC v)) (hv : av d = some v) : PE X e (tD G ms lk (.own 0) [] XE (dC d)) := h.weak fun σ H Q ⟨w, env, o, hH, R, ho, F⟩ => by
  cases ho
  have := F w v [] R .refl (ValR.atom hv) .nil
  rw [hH] at this
  exact this
theorem se_int {i : Int} {j} : PE X (.Constant (.int i) j pos) (tD G ms lk (.own 0) [] XE (dC (.int i))) := se_val pe_int rfl
theorem se_bl {i : Bool} {j} : PE X (.Constant (.bool i) j pos) (tD G ms lk (.own 0) [] XE (dC (.bl i))) := se_val pe_bl rfl
theorem se_non {j} : PE X (.Constant .none j pos) (tD G ms lk (.own 0) [] XE (dC .non)) := se_val pe_non rfl
theorem se_str {i : Str} {j} : PE X (.Constant (.str i) j pos) (tD G ms lk (.own 0) [] XE (dC (.str i))) := se_val pe_str rfl
/-- a constant of the module -/
theorem se_glob {x : Str} {v : V} {d : D} {u : Value} (hv : av d = some v) (hg : Gl X x) (hm : X.mg x = some u) (r : RelV v u) (hd : (x == ("__debug__" : Str)) = false := by decide) : PE X (.Name x pos) (tD G ms lk (.own 0) [] XE (dC d)) := se_val (pe_glob hg hm r hd) hv
/-- a slot: what it holds is frozen -/
theorem se_v0 {i : Nat} (h : PE X e (tVar i)) (hm : md ms i = 0) : PE X e (tD G ms lk (.own 0) [] XE (dV i)) := h.weak fun σ H Q ⟨w, env, o, hH, R, ho, F⟩ => by
  unfold dV at ho
  split at ho
  · rename_i d hd
    cases ho
    obtain ⟨v, hv, q⟩ := R.slot i d hd
    rw [hm] at q
    refine ⟨v, hv, ?_⟩
    rw [← hH]
    exact F w v [] R .refl ⟨⟨rfl, q.2⟩, List.nodup_nil, fun _ z => by cases z⟩ .nil
  · cases ho
/-- a slot that owns its value -/
theorem se_v {i m : Nat} (h : PE X e (tVar i)) (hm : md ms i = m) : PE X e (tD G ms lk (.bor m [i]) [] XE (dV i)) := h.weak fun σ H Q ⟨w, env, o, hH, R, ho, F⟩ => by
  unfold dV at ho
  split at ho
  · rename_i d hd
    cases ho
    obtain ⟨v, hv, q⟩ := R.slot i d hd
    rw [hm] at q
    refine ⟨v, hv, ?_⟩
    rw [← hH]
    exact F w v (w.Ls i) R .refl ⟨q, fun a ha => ⟨i, by simp, ha⟩⟩ fun a ha _ => ⟨i, by simp, ha⟩
  · cases ho
/-- Z grows by what nobody owns -/
theorem Rel.grow {w : Wd} {env : Ev} {σ : L2.St} (R : Rel G ms lk w env σ) {L : List Addr} (h : ∀ a ∈ L, w.Z a = none ∧ (∀ j, a ∉ w.Ls j)) : Rel G ms lk ⟨pl w.Z (unl w.H) L, w.H, w.Ls⟩ env σ := by
  have s : Same w.Z (pl w.Z (unl w.H) L) := pl_same fun a ha => (h a ha).1
  refine ⟨pl_sub R.sub, R.len, fun i d hd => ?_, R.emp, R.nd, R.dj, fun i a ha => ?_, R.nl, R.pin, fun a xs e => pl_same (fun a ha => (h a ha).1) _ _ (R.tz a xs e)⟩
  · obtain ⟨v, hv, q⟩ := R.slot i d hd
    exact ⟨v, hv, q.frame s fun _ _ => rfl⟩
  · show pl w.Z (unl w.H) L a = none
    unfold pl
    rw [if_neg fun z => (h a z).2 i ha]
    exact R.zn i a ha
/-- new things are frozen for good -/
theorem se_frz {m : Nat} (h : PE X e (tD G ms lk (.own m) E XE ca)) : PE X e (tD G ms lk (.own 0) E XE ca) := h.weak fun σ H Q ⟨w, env, o, hH, R, ho, F⟩ => by
  refine ⟨w, env, o, hH, R, ho, ?_⟩
  cases o with
  | ex x env' => exact F
  | ok d env' =>
    intro w' v L R' x V n
    obtain ⟨h1, h2, h3⟩ := V
    refine F ⟨pl w'.Z (unl w'.H) L, w'.H, w'.Ls⟩ v [] (R'.grow fun a ha => ⟨(h3 a ha).1, (h3 a ha).2.1⟩) ⟨fun a o e => ?_, x.hh, fun a z1 z2 z3 => ?_, x.ll, x.ln, x.al⟩ ⟨⟨rfl, ?_⟩, List.nodup_nil, fun _ z => by cases z⟩ .nil
    · exact pl_same (fun a ha => (h3 a ha).1) _ _ (x.zz _ _ e)
    · by_cases ha : a ∈ L
      · obtain ⟨j, hj, q⟩ := n a ha z3
        rcases hj with hj | hj
        · exact ⟨j, hj, q⟩
        · cases hj
      · have z1' : pl w'.Z (unl w'.H) L a ≠ none := z1
        unfold pl at z1'
        rw [if_neg ha] at z1'
        exact x.zn a z1' z2 z3
    · exact h1.frz (pl_same fun a ha => (h3 a ha).1) fun a ha => pl_in ha
/-- to be read only -/
theorem se_tmp (h : PE X e (tD G ms lk k E XE ca)) : PE X e (tD G ms lk (.tmp k.bs) E XE ca) := h.weak fun σ H Q ⟨w, env, o, hH, R, ho, F⟩ => by
  refine ⟨w, env, o, hH, R, ho, ?_⟩
  cases o with
  | ex x env' => exact F
  | ok d env' =>
    intro w' v L R' x V n
    refine F w' v L R' x ?_ n
    cases k with
    | own m =>
      obtain ⟨h1, h2, h3⟩ := V
      exact ⟨h1.frz (pl_same fun a ha => (h3 a ha).1) fun a ha => pl_in ha, fun a ha => ⟨(h3 a ha).1, fun z => h1.here a ha (unl_none.mpr z), .inr (h3 a ha).2.1⟩⟩
    | bor m bs =>
      obtain ⟨h1, h2⟩ := V
      refine ⟨h1.frz (pl_same fun a ha => ?_) fun a ha => pl_in ha, fun a ha => ?_⟩
      · obtain ⟨j, _, q⟩ := h2 a ha
        exact R'.zn j a q
      · obtain ⟨j, hj, q⟩ := h2 a ha
        exact ⟨R'.zn j a q, fun z => h1.here a ha (unl_none.mpr z), .inl ⟨j, hj, q⟩⟩
    | tmp bs => exact V
/-- more may be written -/
theorem se_eff (hE : ∀ j ∈ Ea, j ∈ E) (h : PE X e (tD G ms lk k Ea XE ca)) : PE X e (tD G ms lk k E XE ca) := h.weak fun σ H Q ⟨w, env, o, hH, R, ho, F⟩ => by
  refine ⟨w, env, o, hH, R, ho, ?_⟩
  cases o with
  | ex x env' => exact fun w' p R' x => F w' p R' (x.mono hE)
  | ok d env' => exact fun w' v L R' x V n => F w' v L R' (x.mono hE) V (n.mono hE fun _ z => z)
/-- an operator's rule, seen from the trees -/
def V2 (G : Gc) (r : R2) (g : D → D → Option D) : Prop := ∀ (H : Hp) (x y : V) (dx dy d : D) (Q : VK), Fz G.K G.CA (unl H) dx x → Fz G.K G.CA (unl H) dy y → g dx dy = some d → ∃ v, av d = some v ∧ (Q v H → r x y H Q)
theorem V2.or {r r' : R2} {g g' : D → D → Option D} (h : V2 G r g) (h' : V2 G r' g') : V2 G (fun x y H Q => r x y H Q ∨ r' x y H Q) fun x y => (g x y).or (g' x y) := fun H x y dx dy d Q hx hy e => by
  dsimp only at e
  cases z : g dx dy with
  | some d' =>
    rw [z] at e
    cases e
    obtain ⟨v, h1, h2⟩ := h H x y dx dy _ Q hx hy z
    exact ⟨v, h1, fun q => .inl (h2 q)⟩
  | none =>
    rw [z] at e
    obtain ⟨v, h1, h2⟩ := h' H x y dx dy _ Q hx hy e
    exact ⟨v, h1, fun q => .inr (h2 q)⟩
/-- the second of two parts, the first kept -/
theorem lf_some {α : Type} {o : Option α} {e : Ev} {r : Out α} (h : lf o e = some r) : ∃ d, o = some d ∧ r = .ok d e := by
  unfold lf at h
  split at h
  · cases h; exact ⟨_, rfl, rfl⟩
  · cases h
theorem tOp_of {r : R2} {g : D → D → Option D} (hv : V2 G r g) (hd : ∀ j ∈ ka.bs, j ∉ Eb) {σ : L2.St} {H : Hp} {Q : VK} (h : tD G ms lk (.own 0) (Ea ++ Eb) XE (d2 g ca cb) σ H Q) :
    tOp r (tD G ms lk ka Ea XE ca) (tD G ms lk kb Eb XE cb) σ H Q := by
  obtain ⟨w, env, o, hH, R, ho, F⟩ := h
  rw [← hH]
  refine tD.bind R ho F (fun j hj => List.mem_append_left _ hj) fun w1 env1 d v L R1 x1 V1 n1 ho1 F1 => ?_
  refine tD.bind R1 ho1 F1 (fun j hj => List.mem_append_right _ hj) fun w2 env2 d2 v2 L2 R2 x2 V2' n2 ho2 F2 => ?_
  obtain ⟨z, hz, rfl⟩ := lf_some ho2
  have V1' := V1.ext x2 hd R1.dz
  obtain ⟨y, hy, q⟩ := hv w2.H v v2 d d2 z Q (V1'.rd R2.sub) (V2'.rd R2.sub) hz
  exact q (F2 w2 y [] R2 .refl (ValR.atom hy) .nil)
theorem se_bin {op : Operator} {r : R2} {g : D → D → Option D} (ho : OpR X (binaryOp op) r) (hv : V2 G r g) (ha : PE X a (tD G ms lk ka Ea XE ca)) (hb : PE X b (tD G ms lk kb Eb XE cb)) (hd : ∀ j ∈ ka.bs, j ∉ Eb := by decide) :
    PE X (.BinOp a op b pos) (tD G ms lk (.own 0) (Ea ++ Eb) XE (d2 g ca cb)) := (pe_op ho ha hb).weak fun _ _ _ h => tOp_of hv hd h
theorem se_cmp {op : CmpOp} {r : R2} {g : D → D → Option D} (ho : OpR X (compareOp op) r) (hv : V2 G r g) (ha : PE X a (tD G ms lk ka Ea XE ca)) (hb : PE X b (tD G ms lk kb Eb XE cb)) (hm : behindInMarks op b = false) (hd : ∀ j ∈ ka.bs, j ∉ Eb := by decide) :
    PE X (.Compare a [op] [b] pos) (tD G ms lk (.own 0) (Ea ++ Eb) XE (d2 g ca cb)) := (pe_cmpR ho ha hb hm).weak fun _ _ _ h => tOp_of hv hd h
/-- one operand -/
def V1 (G : Gc) (r : V → Hp → VK → Prop) (g : D → Option D) : Prop := ∀ (H : Hp) (x : V) (dx d : D) (Q : VK), Fz G.K G.CA (unl H) dx x → g dx = some d → ∃ v, av d = some v ∧ (Q v H → r x H Q)
theorem se_un {op : UnaryOp} {r : V → Hp → VK → Prop} {g : D → Option D} (ho : UnR X (unaryOp op) r) (hv : V1 G r g) (ha : PE X a (tD G ms lk ka Ea XE ca)) : PE X (.UnaryOp op a pos) (tD G ms lk (.own 0) Ea XE (d1 g ca)) := (pe_un ho ha).weak fun σ H Q ⟨w, env, o, hH, R, ho, F⟩ => by
  rw [← hH]
  refine tD.bind R ho F (fun j hj => hj) fun w1 env1 d v L R1 x1 V1 n1 ho1 F1 => ?_
  obtain ⟨z, hz, rfl⟩ := lf_some ho1
  obtain ⟨y, hy, q⟩ := hv w1.H v d z Q (V1.rd R1.sub) hz
  exact q (F1 w1 y [] R1 .refl (ValR.atom hy) .nil)
/-! tests -/
abbrev DB := Ev → Option (Out Bool)
def FinB (G : Gc) (ms lk : List Nat) (E : List Nat) (XE : XK) (w : Wd) (σ : L2.St) (Q : Bool → Hp → Prop) : Out Bool → Prop
  | .ok b env' => ∀ w', Rel G ms lk w' env' σ → Ext E w w' → Q b w'.H
  | .ex x env' => ∀ w' p, Rel G ms lk w' env' σ → Ext E w w' → Pay G w' x p → XE (.ref (G.CA x.c)) p w'.H
def tT (G : Gc) (ms lk : List Nat) (E : List Nat) (XE : XK) (c : DB) : TT := fun σ H Q => ∃ w env o, w.H = H ∧ Rel G ms lk w env σ ∧ c env = some o ∧ FinB G ms lk E XE w σ Q o
theorem FinB.step {w w1 : Wd} {σ : L2.St} {Q : Bool → Hp → Prop} : ∀ {o : Out Bool}, FinB G ms lk E XE w σ Q o → Ext E w w1 → FinB G ms lk E XE w1 σ Q o
  | .ok _ _, h, x => fun w' R y => h w' R (x.trans y)
  | .ex _ _, h, x => fun w' p R y P => h w' p R (x.trans y) P
/-- a value as a test -/
def asB : D → Option Bool
  | .bl b => some b
  | _ => none
def bT (c : DE) : DB := bnd c fun d => lf (asB d)
def ofB (c : DB) : DE := bnd c fun b => lf (some (.bl b))
theorem tB_of {σ : L2.St} {H : Hp} {Q : Bool → Hp → Prop} (h : tT G ms lk E XE (bT ca) σ H Q) : tB (tD G ms lk k E XE ca) σ H Q := by
  obtain ⟨w, env, o, hH, R, ho, F⟩ := h
  unfold bT bnd at ho
  refine ⟨w, env, ?_⟩
  split at ho
  · rename_i d e1 he
    refine ⟨.ok d e1, hH, R, he, fun w' v L R' x V n => ?_⟩
    obtain ⟨b, hb, rfl⟩ := lf_some ho
    cases d <;> simp only [asB] at hb <;> try (cases hb)
    have hv : v = .bl b := V.rd R'.sub
    exact ⟨b, hv, F w' R' x⟩
  · rename_i x e1 he
    cases ho
    exact ⟨.ex x e1, hH, R, he, F⟩
  · cases ho
theorem st_val (h : PE X e (tD G ms lk k E XE ca)) (he : ∀ whole, isTrue e X.env whole = (do let v ← whole; standAt e.pos; holding [v] (truthy v)) := by intro _; rfl) : PT X e (tT G ms lk E XE (bT ca)) := (pt_val h he).weak fun _ _ _ h => tB_of h
theorem st_cmp {op : CmpOp} {r : R2} {g : D → D → Option D} (ho : OpR X (compareOp op) r) (hv : V2 G r g) (ha : PE X a (tD G ms lk ka Ea XE ca)) (hb : PE X b (tD G ms lk kb Eb XE cb)) (hm : behindInMarks op b = false) (hd : ∀ j ∈ ka.bs, j ∉ Eb := by decide) :
    PT X (.Compare a [op] [b] pos) (tT G ms lk (Ea ++ Eb) XE (bT (d2 g ca cb))) := (pt_cmpR ho ha hb hm).weak fun σ H Q h => by
  have h' : tB (tD G ms lk (.own 0) (Ea ++ Eb) XE (d2 g ca cb)) σ H Q := tB_of h
  exact tOp_of hv hd h'
def bNot (c : DB) : DB := bnd c fun b => lf (some !b)
def bAnd (c d : DB) : DB := bnd c fun b => cond b d (lf (some false))
def bOr (c d : DB) : DB := bnd c fun b => cond b (lf (some true)) d
theorem tT.bind {w : Wd} {env : Ev} {σ : L2.St} {E1 : List Nat} {Q P : Bool → Hp → Prop} {c : DB} {f : Bool → DB} {o : Out Bool} (R : Rel G ms lk w env σ) (ho : bnd c f env = some o) (F : FinB G ms lk E XE w σ Q o)
    (hE : ∀ j ∈ E1, j ∈ E) (hp : ∀ w1 env1 b, Rel G ms lk w1 env1 σ → Ext E1 w w1 → f b env1 = some o → FinB G ms lk E XE w1 σ Q o → P b w1.H) : tT G ms lk E1 XE c σ w.H P := by
  unfold bnd at ho
  split at ho
  · rename_i d e1 he
    refine ⟨w, env, .ok d e1, rfl, R, he, fun w' R' x => hp w' e1 d R' x ho (F.step (x.mono hE))⟩
  · rename_i x e1 he
    cases ho
    exact ⟨w, env, .ex x e1, rfl, R, he, fun w' p R' x P => F w' p R' (x.mono hE) P⟩
  · cases ho
/-- a test ahead of an expression -/
theorem tT.bindD {w : Wd} {env : Ev} {σ : L2.St} {E1 : List Nat} {Q : VK} {P : Bool → Hp → Prop} {c : DB} {f : Bool → DE} {o : Out D} (R : Rel G ms lk w env σ) (ho : bnd c f env = some o) (F : Fin G ms lk k E XE w σ Q o)
    (hE : ∀ j ∈ E1, j ∈ E) (hp : ∀ w1 env1 b, Rel G ms lk w1 env1 σ → Ext E1 w w1 → f b env1 = some o → Fin G ms lk k E XE w1 σ Q o → P b w1.H) : tT G ms lk E1 XE c σ w.H P := by
  unfold bnd at ho
  split at ho
  · rename_i d e1 he
    refine ⟨w, env, .ok d e1, rfl, R, he, fun w' R' x => hp w' e1 d R' x ho (F.step (x.mono hE))⟩
  · rename_i x e1 he
    cases ho
    exact ⟨w, env, .ex x e1, rfl, R, he, fun w' p R' x P => F w' p R' (x.mono hE) P⟩
  · cases ho
theorem FinB.mono {w : Wd} {σ : L2.St} {Q : Bool → Hp → Prop} (hE : ∀ j ∈ Ea, j ∈ E) : ∀ {o : Out Bool}, FinB G ms lk E XE w σ Q o → FinB G ms lk Ea XE w σ Q o
  | .ok _ _, h => fun w' R y => h w' R (y.mono hE)
  | .ex _ _, h => fun w' p R y P => h w' p R (y.mono hE) P
theorem Fin.mono {w : Wd} {σ : L2.St} {Q : VK} (hE : ∀ j ∈ Ea, j ∈ E) : ∀ {o : Out D}, Fin G ms lk k E XE w σ Q o → Fin G ms lk k Ea XE w σ Q o
  | .ok _ _, h => fun w' v L R y V n => h w' v L R (y.mono hE) V (n.mono hE fun _ z => z)
  | .ex _ _, h => fun w' p R y P => h w' p R (y.mono hE) P
variable {ta tb : DB}
theorem st_not (ha : PT X a (tT G ms lk Ea XE ta)) : PT X (.UnaryOp .Not a pos) (tT G ms lk Ea XE (bNot ta)) := (pt_not ha).weak fun σ H Q ⟨w, env, o, hH, R, ho, F⟩ => by
  rw [← hH]
  refine tT.bind R ho F (fun j hj => hj) fun w1 env1 b R1 x1 ho1 F1 => ?_
  obtain ⟨z, hz, rfl⟩ := lf_some ho1
  cases hz
  exact F1 w1 R1 .refl
theorem tAnd_of {σ : L2.St} {H : Hp} {Q : Bool → Hp → Prop} (h : tT G ms lk (Ea ++ Eb) XE (bAnd ta tb) σ H Q) : tAnd (tT G ms lk Ea XE ta) (tT G ms lk Eb XE tb) σ H Q := by
  obtain ⟨w, env, o, hH, R, ho, F⟩ := h
  rw [← hH]
  refine tT.bind R ho F (fun j hj => List.mem_append_left _ hj) fun w1 env1 b R1 x1 ho1 F1 => ?_
  cases b with
  | true => exact ⟨w1, env1, o, rfl, R1, ho1, F1.mono fun j hj => List.mem_append_right _ hj⟩
  | false =>
    obtain ⟨z, hz, rfl⟩ := lf_some (o := some false) (e := env1) ho1
    cases hz
    exact F1 w1 R1 .refl
theorem tOr_of {σ : L2.St} {H : Hp} {Q : Bool → Hp → Prop} (h : tT G ms lk (Ea ++ Eb) XE (bOr ta tb) σ H Q) : tOr (tT G ms lk Ea XE ta) (tT G ms lk Eb XE tb) σ H Q := by
  obtain ⟨w, env, o, hH, R, ho, F⟩ := h
  rw [← hH]
  refine tT.bind R ho F (fun j hj => List.mem_append_left _ hj) fun w1 env1 b R1 x1 ho1 F1 => ?_
  cases b with
  | false => exact ⟨w1, env1, o, rfl, R1, ho1, F1.mono fun j hj => List.mem_append_right _ hj⟩
  | true =>
    obtain ⟨z, hz, rfl⟩ := lf_some (o := some true) (e := env1) ho1
    cases hz
    exact F1 w1 R1 .refl
theorem _root_.L2.PW.weak {X : Cx} {e : Expr} {t t' : TT} (h : PW X e t) (i : ∀ σ H Q, t' σ H Q → t σ H Q) : PW X e t' := ⟨fun whole pins s σ H Q I q => h.run whole pins s σ H Q I (i σ H Q q)⟩
variable {rest : List Expr}
theorem sw_and1 (ha : PT X a (tT G ms lk Ea XE ta)) : PW X (.BoolOp .And [a] pos) (tT G ms lk Ea XE ta) := pw_and1 ha
theorem sw_or1 (ha : PT X a (tT G ms lk Ea XE ta)) : PW X (.BoolOp .Or [a] pos) (tT G ms lk Ea XE ta) := pw_or1 ha
theorem sw_and (ha : PT X a (tT G ms lk Ea XE ta)) (hb : PW X (.BoolOp .And (b :: rest) pos) (tT G ms lk Eb XE tb)) : PW X (.BoolOp .And (a :: b :: rest) pos) (tT G ms lk (Ea ++ Eb) XE (bAnd ta tb)) := L2.PW.weak (pw_and ha hb) fun _ _ _ h => tAnd_of h
theorem sw_or (ha : PT X a (tT G ms lk Ea XE ta)) (hb : PW X (.BoolOp .Or (b :: rest) pos) (tT G ms lk Eb XE tb)) : PW X (.BoolOp .Or (a :: b :: rest) pos) (tT G ms lk (Ea ++ Eb) XE (bOr ta tb)) := L2.PW.weak (pw_or ha hb) fun _ _ _ h => tOr_of h
/-! truth values as values -/
def dAnd (a b : DE) : DE := bnd a fun x => match x with
  | .bl true => b
  | .bl false => lf (some (.bl false))
  | _ => fun _ => none
def dOr (a b : DE) : DE := bnd a fun x => match x with
  | .bl true => lf (some (.bl true))
  | .bl false => b
  | _ => fun _ => none
def dNot (a : DE) : DE := bnd a fun x => match x with
  | .bl t => lf (some (.bl !t))
  | _ => fun _ => none
theorem bl_of {w : Wd} {v : V} {L : List Addr} {t : Bool} (h : ValR G w (.bl t) v L k) (s : Same w.Z (unl w.H)) : v = .bl t := h.rd s
theorem se_one {op} (ha : PE X a (tD G ms lk ka Ea XE ca)) : PE X (.BoolOp op [a] pos) (tD G ms lk ka Ea XE ca) := pe_one ha
theorem se_and (ha : PE X a (tD G ms lk ka Ea XE ca)) (hb : PE X (.BoolOp .And (b :: rest) pos) (tD G ms lk (.own 0) Eb XE cb)) : PE X (.BoolOp .And (a :: b :: rest) pos) (tD G ms lk (.own 0) (Ea ++ Eb) XE (dAnd ca cb)) := (pe_and ha hb).weak fun σ H Q ⟨w, env, o, hH, R, ho, F⟩ => by
  rw [← hH]
  refine tD.bind R ho F (fun j hj => List.mem_append_left _ hj) fun w1 env1 d v L R1 x1 V1 n1 ho1 F1 => ?_
  match d, ho1, V1 with
  | .bl true, ho1, V1 => exact ⟨true, bl_of V1 R1.sub, w1, env1, o, rfl, R1, ho1, F1.mono fun j hj => List.mem_append_right _ hj⟩
  | .bl false, ho1, V1 =>
    obtain ⟨z, hz, rfl⟩ := lf_some ho1
    cases hz
    exact ⟨false, bl_of V1 R1.sub, F1 w1 _ [] R1 .refl (ValR.atom rfl) .nil⟩
theorem se_or (ha : PE X a (tD G ms lk ka Ea XE ca)) (hb : PE X (.BoolOp .Or (b :: rest) pos) (tD G ms lk (.own 0) Eb XE cb)) : PE X (.BoolOp .Or (a :: b :: rest) pos) (tD G ms lk (.own 0) (Ea ++ Eb) XE (dOr ca cb)) := (pe_or ha hb).weak fun σ H Q ⟨w, env, o, hH, R, ho, F⟩ => by
  rw [← hH]
  refine tD.bind R ho F (fun j hj => List.mem_append_left _ hj) fun w1 env1 d v L R1 x1 V1 n1 ho1 F1 => ?_
  match d, ho1, V1 with
  | .bl false, ho1, V1 => exact ⟨false, bl_of V1 R1.sub, w1, env1, o, rfl, R1, ho1, F1.mono fun j hj => List.mem_append_right _ hj⟩
  | .bl true, ho1, V1 =>
    obtain ⟨z, hz, rfl⟩ := lf_some ho1
    cases hz
    exact ⟨true, bl_of V1 R1.sub, F1 w1 _ [] R1 .refl (ValR.atom rfl) .nil⟩
theorem se_not (ha : PE X a (tD G ms lk ka Ea XE ca)) : PE X (.UnaryOp .Not a pos) (tD G ms lk (.own 0) Ea XE (dNot ca)) := (pe_not ha).weak fun σ H Q ⟨w, env, o, hH, R, ho, F⟩ => by
  rw [← hH]
  refine tD.bind R ho F (fun j hj => hj) fun w1 env1 d v L R1 x1 V1 n1 ho1 F1 => ?_
  match d, ho1, V1 with
  | .bl t, ho1, V1 =>
    obtain ⟨z, hz, rfl⟩ := lf_some ho1
    cases hz
    exact ⟨t, bl_of V1 R1.sub, F1 w1 _ [] R1 .refl (ValR.atom rfl) .nil⟩
def dIf (c : DB) (a b : DE) : DE := bnd c fun t => cond t a b
theorem se_if (hc : PT X c (tT G ms lk Ec XE ta)) (ha : PE X a (tD G ms lk k Ea XE ca)) (hb : PE X b (tD G ms lk k Eb XE cb)) : PE X (.IfExp c a b pos) (tD G ms lk k (Ec ++ Ea ++ Eb) XE (dIf ta ca cb)) := (pe_ifExp hc ha hb).weak fun σ H Q ⟨w, env, o, hH, R, ho, F⟩ => by
  rw [← hH]
  refine tT.bindD R ho F (fun j hj => by simp [hj]) fun w1 env1 b R1 x1 ho1 F1 => ?_
  cases b with
  | true => exact ⟨w1, env1, o, rfl, R1, ho1, F1.mono fun j hj => by simp [hj]⟩
  | false => exact ⟨w1, env1, o, rfl, R1, ho1, F1.mono fun j hj => by simp [hj]⟩
/-! chains -/
def dChain (g g' : D → D → Option D) (a b c : DE) : DE := bnd a fun x => bnd b fun y => match g x y with
  | some (.bl true) => bnd c fun z => lf (g' y z)
  | some (.bl false) => lf (some (.bl false))
  | _ => fun _ => none
theorem tChain_of {r r' : R2} {g g' : D → D → Option D} (hv : V2 G r g) (hv' : V2 G r' g') (hd : ∀ j ∈ ka.bs, j ∉ Eb) (hd' : ∀ j ∈ kb.bs, j ∉ Ec) {σ : L2.St} {H : Hp} {Q : VK} (h : tD G ms lk (.own 0) (Ea ++ Eb ++ Ec) XE (dChain g g' ca cb cc) σ H Q) :
    tChain r r' (tD G ms lk ka Ea XE ca) (tD G ms lk kb Eb XE cb) (tD G ms lk kc Ec XE cc) σ H Q := by
  obtain ⟨w, env, o, hH, R, ho, F⟩ := h
  rw [← hH]
  refine tD.bind R ho F (fun j hj => by simp [hj]) fun w1 env1 d v L R1 x1 V1 n1 ho1 F1 => ?_
  refine tD.bind R1 ho1 F1 (fun j hj => by simp [hj]) fun w2 env2 d2 v2 L2 R2 x2 V2' n2 ho2 F2 => ?_
  have V1' := V1.ext x2 hd R1.dz
  revert ho2
  cases hz : g d d2 with
  | none => intro ho2; cases ho2
  | some z0 =>
    obtain ⟨y, hy, q⟩ := hv w2.H v v2 d d2 z0 (fun z H3 => ∃ k, z = .bl k ∧ (if k = true then tD G ms lk kc Ec XE cc σ H3 fun w' H4 => r' v2 w' H4 Q else Q (.bl false) H3)) (V1'.rd R2.sub) (V2'.rd R2.sub) hz
    match z0, hy with
    | .bl true, hy =>
      intro ho2
      refine q ⟨true, by cases hy; rfl, ?_⟩
      rw [if_pos rfl]
      refine tD.bind R2 ho2 F2 (fun j hj => by simp [hj]) fun w3 env3 d3 v3 L3 R3 x3 V3 n3 ho3 F3 => ?_
      obtain ⟨z, hz, rfl⟩ := lf_some ho3
      obtain ⟨y, hy, q⟩ := hv' w3.H v2 v3 d2 d3 z Q ((V2'.ext x3 hd' R2.dz).rd R3.sub) (V3.rd R3.sub) hz
      exact q (F3 w3 y [] R3 .refl (ValR.atom hy) .nil)
    | .bl false, hy =>
      intro ho2
      obtain ⟨z, hz', rfl⟩ := lf_some ho2
      cases hz'
      refine q ⟨false, by cases hy; rfl, ?_⟩
      rw [if_neg Bool.false_ne_true]
      exact F2 w2 _ [] R2 .refl (ValR.atom rfl) .nil
    | .non, _ => intro ho2; cases ho2
    | .int _, _ => intro ho2; cases ho2
    | .str _, _ => intro ho2; cases ho2
    | .lst _, _ => intro ho2; cases ho2
    | .tup _, _ => intro ho2; cases ho2
    | .dct _, _ => intro ho2; cases ho2
    | .dtt _, _ => intro ho2; cases ho2
    | .obj _ _, _ => intro ho2; cases ho2
    | .scr _, _ => intro ho2; cases ho2
theorem se_chain {op op' : CmpOp} {r r' : R2} {g g' : D → D → Option D} (ho : OpR X (compareOp op) r) (hv : V2 G r g) (ho' : OpR X (compareOp op') r') (hv' : V2 G r' g') (ha : PE X a (tD G ms lk ka Ea XE ca)) (hb : PE X b (tD G ms lk kb Eb XE cb)) (hc : PE X c (tD G ms lk kc Ec XE cc))
    (hd : ∀ j ∈ ka.bs, j ∉ Eb := by decide) (hd' : ∀ j ∈ kb.bs, j ∉ Ec := by decide) (hm : lastMarks [op, op'] [b, c] = false := by with_unfolding_all rfl) : PE X (.Compare a [op, op'] [b, c] pos) (tD G ms lk (.own 0) (Ea ++ Eb ++ Ec) XE (dChain g g' ca cb cc)) :=
  (pe_chain ho ho' ha hb hc hm).weak fun _ _ _ h => tChain_of hv hv' hd hd' h
theorem st_chain {op op' : CmpOp} {r r' : R2} {g g' : D → D → Option D} (ho : OpR X (compareOp op) r) (hv : V2 G r g) (ho' : OpR X (compareOp op') r') (hv' : V2 G r' g') (ha : PE X a (tD G ms lk ka Ea XE ca)) (hb : PE X b (tD G ms lk kb Eb XE cb)) (hc : PE X c (tD G ms lk kc Ec XE cc))
    (hd : ∀ j ∈ ka.bs, j ∉ Eb := by decide) (hd' : ∀ j ∈ kb.bs, j ∉ Ec := by decide) (hm : lastMarks [op, op'] [b, c] = false := by with_unfolding_all rfl) : PT X (.Compare a [op, op'] [b, c] pos) (tT G ms lk (Ea ++ Eb ++ Ec) XE (bT (dChain g g' ca cb cc))) :=
  (pt_chain ho ho' ha hb hc hm).weak fun σ H Q h => by
    have h' : tB (tD G ms lk (.own 0) (Ea ++ Eb ++ Ec) XE (dChain g g' ca cb cc)) σ H Q := tB_of h
    exact tChain_of hv hv' hd hd' h'
end
end PD
namespace PD
open PySem PySem.Spec PyProof.Rows L2 GF
/-! ### arguments, calls of built-ins, displays, items -/
abbrev DA := Ev → Option (Out (List D))
def nilA : DA := lf (some [])
def consA (a : DE) (b : DA) : DA := bnd a fun d => bnd b fun ds => lf (some (d :: ds))
def dN (g : List D → Option D) (a : DA) : DE := bnd a fun ds => lf (g ds)
abbrev bsA (ks : List Kd) : List Nat := ks.flatMap Kd.bs
def VA (G : Gc) (w : Wd) : List Kd → List D → List V → List Addr → Prop
  | [], ds, vs, L => ds = [] ∧ vs = [] ∧ L = []
  | k :: ks, ds, vs, L => ∃ d ds' v vs' L1 L2, ds = d :: ds' ∧ vs = v :: vs' ∧ L = L1 ++ L2 ∧ ValR G w d v L1 k ∧ VA G w ks ds' vs' L2 ∧ ∀ m, k = .own m → ∀ a ∈ L1, a ∉ L2
def FinA (G : Gc) (ms lk : List Nat) (ks : List Kd) (E : List Nat) (XE : XK) (w : Wd) (σ : L2.St) (Q : List V → Hp → Prop) : Out (List D) → Prop
  | .ok ds env' => ∀ w' vs L, Rel G ms lk w' env' σ → Ext E w w' → VA G w' ks ds vs L → New E w (bsA ks) L → Q vs w'.H
  | .ex x env' => ∀ w' p, Rel G ms lk w' env' σ → Ext E w w' → Pay G w' x p → XE (.ref (G.CA x.c)) p w'.H
def tA (G : Gc) (ms lk : List Nat) (ks : List Kd) (E : List Nat) (XE : XK) (c : DA) : TA := fun σ H Q => ∃ w env o, w.H = H ∧ Rel G ms lk w env σ ∧ c env = some o ∧ FinA G ms lk ks E XE w σ Q o
section
variable {X : Cx} {G : Gc} {ms lk : List Nat} {k ka kb : Kd} {ks : List Kd} {E Ea Eb : List Nat} {XE : XK} {pos : Pos} {a b e : Expr} {es : List Expr} {ca cb : DE} {cs : DA}
theorem FinA.step {w w1 : Wd} {σ : L2.St} {Q : List V → Hp → Prop} : ∀ {o : Out (List D)}, FinA G ms lk ks E XE w σ Q o → Ext E w w1 → FinA G ms lk ks E XE w1 σ Q o
  | .ok _ _, h, x => fun w' v L R y V n => h w' v L R (x.trans y) V (n.back x)
  | .ex _ _, h, x => fun w' p R y P => h w' p R (x.trans y) P
/-- one part ahead of whatever follows -/
theorem tD.bindG {β : Type} {FF : Wd → Out β → Prop} {k1 : Kd} {E1 : List Nat} {w : Wd} {env : Ev} {σ : L2.St} {P : VK} {c : DE} {f : D → Ev → Option (Out β)} {o : Out β} (R : Rel G ms lk w env σ) (ho : bnd c f env = some o) (F : FF w o)
    (hs : ∀ w1, Ext E1 w w1 → FF w o → FF w1 o) (hx : ∀ x e, o = .ex x e → FF w o → ∀ w' p, Rel G ms lk w' e σ → Ext E1 w w' → Pay G w' x p → XE (.ref (G.CA x.c)) p w'.H)
    (hp : ∀ w1 env1 d v L, Rel G ms lk w1 env1 σ → Ext E1 w w1 → ValR G w1 d v L k1 → New E1 w k1.bs L → f d env1 = some o → FF w1 o → P v w1.H) : tD G ms lk k1 E1 XE c σ w.H P := by
  unfold bnd at ho
  split at ho
  · rename_i d e1 he
    refine ⟨w, env, .ok d e1, rfl, R, he, fun w' v L R' x V n => hp w' e1 d v L R' x V n ho (hs w' x F)⟩
  · rename_i x e1 he
    cases ho
    exact ⟨w, env, .ex x e1, rfl, R, he, hx x e1 rfl F⟩
  · cases ho
theorem tA.bindG {β : Type} {FF : Wd → Out β → Prop} {E1 : List Nat} {w : Wd} {env : Ev} {σ : L2.St} {P : List V → Hp → Prop} {c : DA} {f : List D → Ev → Option (Out β)} {o : Out β} (R : Rel G ms lk w env σ) (ho : bnd c f env = some o) (F : FF w o)
    (hs : ∀ w1, Ext E1 w w1 → FF w o → FF w1 o) (hx : ∀ x e, o = .ex x e → FF w o → ∀ w' p, Rel G ms lk w' e σ → Ext E1 w w' → Pay G w' x p → XE (.ref (G.CA x.c)) p w'.H)
    (hp : ∀ w1 env1 d v L, Rel G ms lk w1 env1 σ → Ext E1 w w1 → VA G w1 ks d v L → New E1 w (bsA ks) L → f d env1 = some o → FF w1 o → P v w1.H) : tA G ms lk ks E1 XE c σ w.H P := by
  unfold bnd at ho
  split at ho
  · rename_i d e1 he
    refine ⟨w, env, .ok d e1, rfl, R, he, fun w' v L R' x V n => hp w' e1 d v L R' x V n ho (hs w' x F)⟩
  · rename_i x e1 he
    cases ho
    exact ⟨w, env, .ex x e1, rfl, R, he, hx x e1 rfl F⟩
  · cases ho
theorem tA.bind {E1 : List Nat} {w : Wd} {env : Ev} {σ : L2.St} {Q : VK} {P : List V → Hp → Prop} {c : DA} {f : List D → DE} {o : Out D} (R : Rel G ms lk w env σ) (ho : bnd c f env = some o) (F : Fin G ms lk k E XE w σ Q o) (hE : ∀ j ∈ E1, j ∈ E)
    (hp : ∀ w1 env1 d v L, Rel G ms lk w1 env1 σ → Ext E1 w w1 → VA G w1 ks d v L → New E1 w (bsA ks) L → f d env1 = some o → Fin G ms lk k E XE w1 σ Q o → P v w1.H) : tA G ms lk ks E1 XE c σ w.H P :=
  tA.bindG (FF := fun w o => Fin G ms lk k E XE w σ Q o) R ho F (fun w1 x F => F.step (x.mono hE)) (fun x e eo F w' p R' x' P => by subst eo; exact F w' p R' (x'.mono hE) P) hp
theorem sa_nil : PA X [] (tA G ms lk [] [] XE nilA) := pa_nil.weak fun σ H Q ⟨w, env, o, hH, R, ho, F⟩ => by
  cases ho
  have := F w [] [] R .refl ⟨rfl, rfl, rfl⟩ .nil
  rw [hH] at this
  exact this
theorem sa_cons (ha : PE X a (tD G ms lk k Ea XE ca)) (hs : PA X es (tA G ms lk ks Eb XE cs)) (hd : ∀ j ∈ k.bs, j ∉ Eb := by decide) (he : starEach (a :: es) X.env = (false, eval a X.env) :: starEach es X.env := by rfl) :
    PA X (a :: es) (tA G ms lk (k :: ks) (Ea ++ Eb) XE (consA ca cs)) := (pa_cons ha hs he).weak fun σ H Q ⟨w, env, o, hH, R, ho, F⟩ => by
  rw [← hH]
  refine tD.bindG (FF := fun w o => FinA G ms lk (k :: ks) (Ea ++ Eb) XE w σ Q o) R ho F (fun w1 x F => F.step (x.mono fun j hj => List.mem_append_left _ hj)) (fun x e eo F w' p R' x' P => by subst eo; exact F w' p R' (x'.mono fun j hj => List.mem_append_left _ hj) P) fun w1 env1 d v L R1 x1 V1 n1 ho1 F1 => ?_
  refine tA.bindG (FF := fun w o => FinA G ms lk (k :: ks) (Ea ++ Eb) XE w σ Q o) R1 ho1 F1 (fun w1 x F => F.step (x.mono fun j hj => List.mem_append_right _ hj)) (fun x e eo F w' p R' x' P => by subst eo; exact F w' p R' (x'.mono fun j hj => List.mem_append_right _ hj) P) fun w2 env2 d2 v2 L2 R2 x2 V2' n2 ho2 F2 => ?_
  obtain ⟨z, hz, rfl⟩ := lf_some ho2
  cases hz
  have V1' := V1.ext x2 hd R1.dz
  refine F w2 (v :: v2) (L ++ L2) R2 ((x1.mono fun j hj => List.mem_append_left _ hj).trans (x2.mono fun j hj => List.mem_append_right _ hj)) ⟨d, d2, v, v2, L, L2, rfl, rfl, rfl, V1', V2', fun m hm a h1 h2 => ?_⟩ fun a ha hn => ?_
  · subst hm
    obtain ⟨q1, q2, q3⟩ := V1
    have hn : w1.H a ≠ none := fun z => q1.here a h1 (unl_none.mpr z)
    obtain ⟨j, _, q⟩ := n2 a h2 hn
    exact (q3 a h1).2.1 j q
  · rcases List.mem_append.mp ha with h1 | h2
    · obtain ⟨j, hj, q⟩ := n1 a h1 hn
      exact ⟨j, hj.imp (fun z => List.mem_append_left _ z) fun z => List.mem_append_left _ z, q⟩
    · obtain ⟨j, hj, q⟩ := ((n2.mono (E' := Ea ++ Eb) (fun j hj => List.mem_append_right _ hj) (fun _ z => z)).back (x1.mono fun j hj => List.mem_append_left _ hj)) a h2 hn
      exact ⟨j, hj.imp id fun z => List.mem_append_right _ z, q⟩
end
end PD
namespace PD
open PySem PySem.Spec PyProof.Rows L2 GF
/-! ### calls of built-ins, displays, items, slices -/
section
variable {X : Cx} {G : Gc} {ms lk : List Nat} {k ka kb : Kd} {ks : List Kd} {E Ea Eb : List Nat} {XE : XK} {pos p : Pos} {a b e : Expr} {es : List Expr} {ca cb : DE} {cs : DA}
theorem ValR.tmp {w : Wd} {d : D} {v : V} {L : List Addr} (h : ValR G w d v L k) (zn : ∀ i, ∀ a ∈ w.Ls i, w.Z a = none) : ValR G w d v L (.tmp k.bs) := by
  cases k with
  | own m =>
    obtain ⟨h1, h2, h3⟩ := h
    exact ⟨h1.frz (pl_same fun a ha => (h3 a ha).1) fun a ha => pl_in ha, fun a ha => ⟨(h3 a ha).1, fun z => h1.here a ha (unl_none.mpr z), .inr (h3 a ha).2.1⟩⟩
  | bor m bs =>
    obtain ⟨h1, h2⟩ := h
    refine ⟨h1.frz (pl_same fun a ha => ?_) fun a ha => pl_in ha, fun a ha => ?_⟩
    · obtain ⟨j, _, q⟩ := h2 a ha
      exact zn j a q
    · obtain ⟨j, hj, q⟩ := h2 a ha
      exact ⟨zn j a q, fun z => h1.here a ha (unl_none.mpr z), .inl ⟨j, hj, q⟩⟩
  | tmp bs => exact h
theorem VA.rd {w : Wd} (s : Same w.Z (unl w.H)) : ∀ {ks : List Kd} {ds : List D} {vs : List V} {L : List Addr}, VA G w ks ds vs L → FzA G.K G.CA (unl w.H) ds vs
  | [], _, _, _, h => by obtain ⟨rfl, rfl, _⟩ := h; rfl
  | _ :: _, _, _, _, h => by
    obtain ⟨d, ds', v, vs', L1, L2, rfl, rfl, e, h1, h2, _⟩ := h
    exact ⟨v, vs', rfl, h1.rd s, VA.rd s h2⟩
theorem VA.len {w : Wd} : ∀ {ks : List Kd} {ds : List D} {vs : List V} {L : List Addr}, VA G w ks ds vs L → ds.length = ks.length ∧ vs.length = ks.length
  | [], _, _, _, h => by obtain ⟨rfl, rfl, _⟩ := h; exact ⟨rfl, rfl⟩
  | _ :: _, _, _, _, h => by
    obtain ⟨d, ds', v, vs', L1, L2, rfl, rfl, e, h1, h2, _⟩ := h
    have := VA.len h2
    simp [this]
theorem VA.own {w : Wd} {m : Nat} : ∀ {ks : List Kd} {ds : List D} {vs : List V} {L : List Addr}, VA G w ks ds vs L → (∀ k ∈ ks, k = .own m) →
    Al3 (Ow G.K G.CA w.Z (unl w.H) m) ds vs L ∧ L.Nodup ∧ ∀ a ∈ L, w.Z a = none ∧ (∀ j, a ∉ w.Ls j) ∧ unl w.H a = w.H a
  | [], _, _, _, h, _ => by obtain ⟨rfl, rfl, rfl⟩ := h; exact ⟨⟨rfl, rfl⟩, List.nodup_nil, fun _ z => by cases z⟩
  | k :: _, _, _, _, h, hk => by
    obtain ⟨d, ds', v, vs', L1, L2, rfl, rfl, rfl, h1, h2, h3⟩ := h
    obtain rfl := hk k List.mem_cons_self
    obtain ⟨q1, q2, q3⟩ := VA.own h2 fun k hk' => hk k (List.mem_cons_of_mem _ hk')
    obtain ⟨r1, r2, r3⟩ := h1
    refine ⟨⟨v, vs', L1, L2, rfl, rfl, r1, q1⟩, List.nodup_append.mpr ⟨r2, q2, fun a ha b hb e => ?_⟩, fun a ha => ?_⟩
    · subst e; exact h3 m rfl a ha hb
    · rcases List.mem_append.mp ha with z | z
      · exact r3 a z
      · exact q3 a z
theorem VA.tmp {w : Wd} (zn : ∀ i, ∀ a ∈ w.Ls i, w.Z a = none) : ∀ {ks : List Kd} {ds : List D} {vs : List V} {L : List Addr}, VA G w ks ds vs L →
    FzA G.K G.CA (pl w.Z (unl w.H) L) ds vs ∧ ∀ a ∈ L, w.Z a = none ∧ w.H a ≠ none ∧ ((∃ j ∈ bsA ks, a ∈ w.Ls j) ∨ ∀ j, a ∉ w.Ls j)
  | [], _, _, _, h => by obtain ⟨rfl, rfl, rfl⟩ := h; exact ⟨rfl, fun _ z => by cases z⟩
  | k :: ks, _, _, _, h => by
    obtain ⟨d, ds', v, vs', L1, L2, rfl, rfl, rfl, h1, h2, h3⟩ := h
    obtain ⟨q1, q2⟩ := VA.tmp zn h2
    obtain ⟨r1, r2⟩ := h1.tmp zn
    have sub : ∀ {M : List Addr}, (∀ a ∈ M, a ∈ L1 ++ L2) → Same (pl w.Z (unl w.H) M) (pl w.Z (unl w.H) (L1 ++ L2)) := fun {M} hM a o e => by
      unfold pl at e ⊢
      by_cases hm : a ∈ M
      · rw [if_pos hm] at e; rw [if_pos (hM a hm)]; exact e
      · rw [if_neg hm] at e
        by_cases hl : a ∈ L1 ++ L2
        · have : w.Z a = none := (List.mem_append.mp hl).elim (fun z => (r2 a z).1) fun z => (q2 a z).1
          rw [this] at e; cases e
        · rw [if_neg hl]; exact e
    refine ⟨⟨v, vs', rfl, r1.same (sub fun a ha => List.mem_append_left _ ha), q1.same (sub fun a ha => List.mem_append_right _ ha)⟩, fun a ha => ?_⟩
    rcases List.mem_append.mp ha with z | z
    · obtain ⟨y1, y2, y3⟩ := r2 a z
      exact ⟨y1, y2, y3.imp (fun ⟨j, hj, q⟩ => ⟨j, List.mem_append_left _ hj, q⟩) id⟩
    · obtain ⟨y1, y2, y3⟩ := q2 a z
      exact ⟨y1, y2, y3.imp (fun ⟨j, hj, q⟩ => ⟨j, List.mem_append_right _ hj, q⟩) id⟩
/-- a built-in's rule, seen from the trees: the answer is no object -/
def VN (G : Gc) (r : List V → Hp → VK → Prop) (g : List D → Option D) : Prop := ∀ (H : Hp) (vs : List V) (ds : List D) (d : D) (Q : VK), FzA G.K G.CA (unl H) ds vs → g ds = some d → ∃ v, av d = some v ∧ (Q v H → r vs H Q)
theorem VN.or {r r' : List V → Hp → VK → Prop} {g g' : List D → Option D} (h : VN G r g) (h' : VN G r' g') : VN G (fun x H Q => r x H Q ∨ r' x H Q) fun x => (g x).or (g' x) := fun H x dx d Q hx e => by
  dsimp only at e
  cases z : g dx with
  | some d' =>
    rw [z] at e
    cases e
    obtain ⟨v, h1, h2⟩ := h H x dx _ Q hx z
    exact ⟨v, h1, fun q => .inl (h2 q)⟩
  | none =>
    rw [z] at e
    obtain ⟨v, h1, h2⟩ := h' H x dx _ Q hx e
    exact ⟨v, h1, fun q => .inr (h2 q)⟩
theorem tCB_of {r : List V → Hp → VK → Prop} {g : List D → Option D} (hv : VN G r g) {σ : L2.St} {H : Hp} {Q : VK} (h : tD G ms lk (.own 0) E XE (dN g cs) σ H Q) : tCB r (tA G ms lk ks E XE cs) σ H Q := by
  obtain ⟨w, env, o, hH, R, ho, F⟩ := h
  rw [← hH]
  refine tA.bind R ho F (fun j hj => hj) fun w1 env1 ds vs L R1 x1 V1 n1 ho1 F1 => ?_
  obtain ⟨z, hz, rfl⟩ := lf_some ho1
  obtain ⟨y, hy, q⟩ := hv w1.H vs ds z Q (V1.rd R1.sub) hz
  exact q (F1 w1 y [] R1 .refl (ValR.atom hy) .nil)
theorem se_callB {x : Str} {id : String} {r : List V → Hp → VK → Prop} {g : List D → Option D} (hc : CallR X (.builtin id) r) (hv : VN G r g) (hg : Gl X x) (hm : X.mg x = none) (hb : bootBuiltins x = some (.builtin id)) (ha : PA X (e :: es) (tA G ms lk ks E XE cs))
    (hn : x ≠ "__name__" := by decide) (hdb : (x == ("__debug__" : Str)) = false := by decide) (he : starEach (e :: es) X.env = (false, eval e X.env) :: starEach es X.env := by rfl) (hpl : (backTo pos (starEach es X.env)).any (·.1) = false := by rfl) :
    PE X (.Call (.Name x p) (e :: es) [] pos) (tD G ms lk (.own 0) E XE (dN g cs)) := PE.weak (pe_callB hc hg hm hb ha hn hdb he hpl) fun _ _ _ h => tCB_of hv h
theorem se_callTy {x : Str} {T : String} {r : List V → Hp → VK → Prop} {g : List D → Option D} (hc : CallR X (.type T) r) (hv : VN G r g) (hg : Gl X x) (hm : X.mg x = none) (hb : bootBuiltins x = some (.type T)) (ha : PA X (e :: es) (tA G ms lk ks E XE cs))
    (hn : x ≠ "__name__" := by decide) (hdb : (x == ("__debug__" : Str)) = false := by decide) (he : starEach (e :: es) X.env = (false, eval e X.env) :: starEach es X.env := by rfl) (hpl : (backTo pos (starEach es X.env)).any (·.1) = false := by rfl) :
    PE X (.Call (.Name x p) (e :: es) [] pos) (tD G ms lk (.own 0) E XE (dN g cs)) := PE.weak (pe_callTy hc hg hm hb ha hn hdb he hpl) fun _ _ _ h => tCB_of hv h
/-! a new object -/
theorem Rel.alloc {w : Wd} {env : Ev} {σ : L2.St} (R : Rel G ms lk w env σ) {q : Addr} {o : HO} (hp : w.H q = none) (po : plain o = true) (pt : ∀ xs, o ≠ .tup xs) : Rel G ms lk ⟨w.Z, upd w.H q o, w.Ls⟩ env σ := by
  have ne : ∀ {i : Nat} {a : Addr}, a ∈ w.Ls i → a ≠ q := fun {i a} ha z => by subst z; exact R.there ha hp
  refine ⟨fun a u e => ?_, R.len, fun i d hd => ?_, R.emp, R.nd, R.dj, R.zn, fun i hi a ha => ?_, R.pin, fun a xs e => ?_⟩
  · show unl (upd w.H q o) a = some u
    have h := R.sub a u e
    rw [unl_upd po, upd_ne fun z => by subst z; rw [unl_none.mpr hp] at h; cases h]
    exact h
  · obtain ⟨v, hv, y⟩ := R.slot i d hd
    refine ⟨v, hv, y.frame (fun _ _ z => z) fun a ha => ?_⟩
    show unl (upd w.H q o) a = _
    rw [unl_upd po, upd_ne (ne ha)]
  · show unl (upd w.H q o) a = upd w.H q o a
    rw [unl_upd po, upd_ne (ne ha), upd_ne (ne ha)]
    exact R.nl i hi a ha
  · have e : upd w.H q o a = some (.tup xs) := e
    by_cases z : a = q
    · subst z; rw [upd_same] at e; cases e; exact absurd rfl (pt xs)
    · rw [upd_ne z] at e; exact R.tz a xs e
/-- a new tuple: frozen -/
theorem Rel.allocT {w : Wd} {env : Ev} {σ : L2.St} (R : Rel G ms lk w env σ) {q : Addr} {xs : List V} (hp : w.H q = none) : Rel G ms lk ⟨upd w.Z q (.tup xs), upd w.H q (.tup xs), w.Ls⟩ env σ := by
  have ne : ∀ {i : Nat} {a : Addr}, a ∈ w.Ls i → a ≠ q := fun {i a} ha z => by subst z; exact R.there ha hp
  have zq : w.Z q = none := by
    cases e : w.Z q with
    | none => rfl
    | some u => have := R.sub q u e; rw [unl_none.mpr hp] at this; cases this
  have zs : Same w.Z (upd w.Z q (.tup xs)) := fun a u e => by rw [upd_ne fun z => by rw [z, zq] at e; cases e]; exact e
  refine ⟨fun a u e => ?_, R.len, fun i d hd => ?_, R.emp, R.nd, R.dj, fun i a ha => ?_, fun i hi a ha => ?_, R.pin, fun a ys e => ?_⟩
  · show unl (upd w.H q (.tup xs)) a = some u
    have e : upd w.Z q (.tup xs) a = some u := e
    rw [unl_upd rfl]
    by_cases z : a = q
    · subst z; rw [upd_same] at e ⊢; exact e
    · rw [upd_ne z] at e ⊢; exact R.sub a u e
  · obtain ⟨v, hv, y⟩ := R.slot i d hd
    refine ⟨v, hv, y.frame zs fun a ha => ?_⟩
    show unl (upd w.H q (.tup xs)) a = _
    rw [unl_upd rfl, upd_ne (ne ha)]
  · show upd w.Z q (.tup xs) a = none
    rw [upd_ne (ne ha)]; exact R.zn i a ha
  · show unl (upd w.H q (.tup xs)) a = upd w.H q (.tup xs) a
    rw [unl_upd rfl, upd_ne (ne ha), upd_ne (ne ha)]
    exact R.nl i hi a ha
  · have e : upd w.H q (.tup xs) a = some (.tup ys) := e
    show upd w.Z q (.tup xs) a = _
    by_cases z : a = q
    · subst z; rw [upd_same] at e ⊢; exact e
    · rw [upd_ne z] at e ⊢; exact R.tz a ys e
theorem Ext.allocT {w : Wd} {q : Addr} {xs : List V} (hp : w.H q = none) (zq : w.Z q = none) : Ext E w ⟨upd w.Z q (.tup xs), upd w.H q (.tup xs), w.Ls⟩ := by
  have ne : ∀ {a : Addr}, w.H a ≠ none → a ≠ q := fun {a} h z => by subst z; exact h hp
  refine ⟨fun a u e => ?_, fun a u h _ => .inl ?_, fun a h1 h2 h3 => ?_, fun _ _ => rfl, fun j hj a h _ => ⟨j, hj, h⟩, fun a h => ?_⟩
  · show upd w.Z q (.tup xs) a = some u
    rw [upd_ne fun z => by rw [z, zq] at e; cases e]; exact e
  · show upd w.H q (.tup xs) a = some u
    rw [upd_ne (ne (by rw [h]; simp))]
    exact h
  · have h1 : upd w.Z q (.tup xs) a ≠ none := h1
    rw [upd_ne (ne h3)] at h1
    exact absurd h2 h1
  · show upd w.H q (.tup xs) a ≠ none
    rw [upd_ne (ne h)]
    exact h
theorem Rel.zn0 {w : Wd} {env : Ev} {σ : L2.St} (R : Rel G ms lk w env σ) {q : Addr} (hp : w.H q = none) : w.Z q = none := by
  cases e : w.Z q with
  | none => rfl
  | some u => have := R.sub q u e; rw [unl_none.mpr hp] at this; cases this
theorem Ext.alloc {w : Wd} {q : Addr} {o : HO} (hp : w.H q = none) : Ext E w ⟨w.Z, upd w.H q o, w.Ls⟩ := by
  have ne : ∀ {a : Addr}, w.H a ≠ none → a ≠ q := fun {a} h z => by subst z; exact h hp
  refine ⟨fun _ _ h => h, fun a u h _ => ?_, fun _ h1 h2 => absurd h2 h1, fun _ _ => rfl, fun j hj a h _ => ⟨j, hj, h⟩, fun a h => ?_⟩
  · refine .inl ?_
    show upd w.H q o a = some u
    rw [upd_ne (ne (by rw [h]; simp))]
    exact h
  · show upd w.H q o a ≠ none
    rw [upd_ne (ne h)]
    exact h
/-- a new object, owned -/
theorem fin_own {m : Nat} {w w1 : Wd} {env1 : Ev} {σ : L2.St} {Q : VK} {d : D} {L : List Addr} {q : Addr} {o : HO} (F : Fin G ms lk (.own (m + 1)) E XE w σ Q (.ok d env1)) (R1 : Rel G ms lk w1 env1 σ) (x1 : Ext E w w1)
    (n1 : New E w [] L) (hL : L.Nodup) (hL2 : ∀ a ∈ L, w1.Z a = none ∧ (∀ j, a ∉ w1.Ls j) ∧ unl w1.H a = w1.H a) (hq : w1.H q = none) (po : plain o = true) (pt : ∀ xs, o ≠ .tup xs) (hl : ∀ a ∈ L, w1.H a ≠ none)
    (hd : ∀ h' : Hp, h' q = some o → (∀ a, a ≠ q → h' a = unl w1.H a) → Ow G.K G.CA w1.Z h' (m + 1) d (.ref q) (q :: L)) : Q (.ref q) (upd w1.H q o) := by
  have ne : ∀ a ∈ L, a ≠ q := fun a ha z => by subst z; exact hl a ha hq
  have zq : w1.Z q = none := by
    cases e : w1.Z q with
    | none => rfl
    | some u => have := R1.sub q u e; rw [unl_none.mpr hq] at this; cases this
  refine F ⟨w1.Z, upd w1.H q o, w1.Ls⟩ (.ref q) (q :: L) (R1.alloc hq po pt) (x1.trans (Ext.alloc hq)) ⟨hd _ ?_ fun a ha => ?_, List.nodup_cons.mpr ⟨fun z => ne q z rfl, hL⟩, fun a ha => ?_⟩ fun a ha hn => ?_
  · show unl (upd w1.H q o) q = _
    rw [unl_upd po, upd_same]
  · show unl (upd w1.H q o) a = _
    rw [unl_upd po, upd_ne ha]
  · show w1.Z a = none ∧ (∀ j, a ∉ w1.Ls j) ∧ unl (upd w1.H q o) a = upd w1.H q o a
    rw [unl_upd po]
    rcases List.mem_cons.mp ha with rfl | ha
    · exact ⟨zq, fun j z => R1.there z hq, by rw [upd_same, upd_same]⟩
    · rw [upd_ne (ne a ha), upd_ne (ne a ha)]
      exact hL2 a ha
  · rcases List.mem_cons.mp ha with rfl | ha
    · exact absurd hq (x1.al a hn)
    · exact n1 a ha hn
/-- a new object, to be read only -/
theorem fin_tmp {bs : List Nat} {w w1 : Wd} {env1 : Ev} {σ : L2.St} {Q : VK} {d : D} {L : List Addr} {q : Addr} {o : HO} (F : Fin G ms lk (.tmp bs) E XE w σ Q (.ok d env1)) (R1 : Rel G ms lk w1 env1 σ) (x1 : Ext E w w1)
    (n1 : New E w bs L) (hL : ∀ a ∈ L, w1.Z a = none ∧ w1.H a ≠ none ∧ ((∃ j ∈ bs, a ∈ w1.Ls j) ∨ ∀ j, a ∉ w1.Ls j)) (hq : w1.H q = none) (po : plain o = true) (pt : ∀ xs, o ≠ .tup xs)
    (hd : ∀ Z' : Hp, Z' q = some o → Same (pl w1.Z (unl w1.H) L) Z' → Fz G.K G.CA Z' d (.ref q)) : Q (.ref q) (upd w1.H q o) := by
  have ne : ∀ a ∈ L, a ≠ q := fun a ha z => by subst z; exact (hL a ha).2.1 hq
  have zq : w1.Z q = none := by
    cases e : w1.Z q with
    | none => rfl
    | some u => have := R1.sub q u e; rw [unl_none.mpr hq] at this; cases this
  refine F ⟨w1.Z, upd w1.H q o, w1.Ls⟩ (.ref q) (q :: L) (R1.alloc hq po pt) (x1.trans (Ext.alloc hq)) ⟨hd _ ?_ fun a u e => ?_, fun a ha => ?_⟩ fun a ha hn => ?_
  · show pl w1.Z (unl (upd w1.H q o)) (q :: L) q = _
    rw [pl_in List.mem_cons_self, unl_upd po, upd_same]
  · show pl w1.Z (unl (upd w1.H q o)) (q :: L) a = _
    unfold pl at e ⊢
    by_cases ha : a ∈ L
    · rw [if_pos ha] at e
      rw [if_pos (List.mem_cons_of_mem _ ha), unl_upd po, upd_ne (ne a ha)]
      exact e
    · rw [if_neg ha] at e
      rw [if_neg fun z => (List.mem_cons.mp z).elim (fun z => by subst z; rw [zq] at e; cases e) ha]
      exact e
  · show w1.Z a = none ∧ upd w1.H q o a ≠ none ∧ _
    rcases List.mem_cons.mp ha with rfl | ha
    · exact ⟨zq, by rw [upd_same]; simp, .inr fun j z => R1.there z hq⟩
    · rw [upd_ne (ne a ha)]
      exact hL a ha
  · rcases List.mem_cons.mp ha with rfl | ha
    · exact absurd hq (x1.al a hn)
    · exact n1 a ha hn
def gLst (ds : List D) : Option D := some (.lst ds)
def gTup (ds : List D) : Option D := some (.tup ds)
theorem bsA_own {m : Nat} : ∀ {ks : List Kd}, (∀ k ∈ ks, k = .own m) → bsA ks = []
  | [], _ => rfl
  | k :: ks, h => by
    obtain rfl := h k List.mem_cons_self
    exact bsA_own (ks := ks) fun k hk => h k (List.mem_cons_of_mem _ hk)
theorem se_lst (m : Nat) (ha : PA X es (tA G ms lk ks E XE cs)) (hk : ∀ k ∈ ks, k = .own m := by intro k hk; repeat' (first | (exact hk.trans rfl) | (cases hk; done) | (rcases List.mem_cons.mp hk with hk | hk))) (hz : ks.length ≤ sizeLine := by show _ ≤ _; decide) : PE X (.List es pos) (tD G ms lk (.own (m + 1)) E XE (dN gLst cs)) := PE.weak (pe_lst ha) fun σ H Q ⟨w, env, o, hH, R, ho, F⟩ => by
  rw [← hH]
  refine tA.bind R ho F (fun j hj => hj) fun w1 env1 ds vs L R1 x1 V1 n1 ho1 F1 => ?_
  obtain ⟨z, hz', rfl⟩ := lf_some ho1
  cases hz'
  refine ⟨by rw [V1.len.2]; exact hz, fun q hq => ?_⟩
  obtain ⟨y1, y2, y3⟩ := V1.own hk
  have hl : ∀ a ∈ L, w1.H a ≠ none := fun a ha => by
    have := (VA.tmp R1.zn V1).2 a ha
    exact this.2.1
  refine fin_own F R1 x1 (by rw [bsA_own hk] at n1; exact n1) y2 y3 hq rfl (fun _ z => by cases z) hl fun h' e1 e2 => ⟨q, vs, L, rfl, e1, by rw [V1.len.1]; exact hz, rfl, y1.imp fun d v l _ r hl' => r.frame (fun _ _ z => z) fun a ha => e2 a fun z => by subst z; exact hl a (hl' a ha) hq⟩
theorem se_lstT (ha : PA X es (tA G ms lk ks E XE cs)) (hz : ks.length ≤ sizeLine := by show _ ≤ _; decide) : PE X (.List es pos) (tD G ms lk (.tmp (bsA ks)) E XE (dN gLst cs)) := PE.weak (pe_lst ha) fun σ H Q ⟨w, env, o, hH, R, ho, F⟩ => by
  rw [← hH]
  refine tA.bind R ho F (fun j hj => hj) fun w1 env1 ds vs L R1 x1 V1 n1 ho1 F1 => ?_
  obtain ⟨z, hz', rfl⟩ := lf_some ho1
  cases hz'
  refine ⟨by rw [V1.len.2]; exact hz, fun q hq => ?_⟩
  obtain ⟨y1, y2⟩ := VA.tmp R1.zn V1
  exact fin_tmp F R1 x1 n1 y2 hq rfl (fun _ z => by cases z) fun Z' e1 e2 => ⟨q, vs, rfl, e1, by rw [V1.len.1]; exact hz, y1.same e2⟩
theorem se_tupT (ha : PA X es (tA G ms lk ks E XE cs)) {x1} (hz : ks.length ≤ sizeLine := by show _ ≤ _; decide) : PE X (.Tuple es x1 pos) (tD G ms lk (.tmp (bsA ks)) E XE (dN gTup cs)) := PE.weak (pe_tup ha) fun σ H Q ⟨w, env, o, hH, R, ho, F⟩ => by
  rw [← hH]
  refine tA.bind R ho F (fun j hj => hj) fun w1 env1 ds vs L R1 x1 V1 n1 ho1 F1 => ?_
  obtain ⟨z, hz', rfl⟩ := lf_some ho1
  cases hz'
  refine ⟨by rw [V1.len.2]; exact hz, fun q hq => ?_⟩
  obtain ⟨y1, y2⟩ := VA.tmp R1.zn V1
  have zq := R1.zn0 hq
  have zs : Same w1.Z (upd w1.Z q (.tup vs)) := fun a u e => by rw [upd_ne fun z => by rw [z, zq] at e; cases e]; exact e
  have ne : ∀ a ∈ L, a ≠ q := fun a ha z => by subst z; exact (y2 a ha).2.1 hq
  refine F ⟨upd w1.Z q (.tup vs), upd w1.H q (.tup vs), w1.Ls⟩ (.ref q) L (R1.allocT hq) (x1.trans (Ext.allocT hq zq)) ⟨⟨q, vs, rfl, ?_, by rw [V1.len.1]; exact hz, y1.same fun a u e => ?_⟩, fun a ha => ?_⟩ n1
  · show pl (upd w1.Z q (.tup vs)) (unl (upd w1.H q (.tup vs))) L q = _
    unfold pl
    rw [if_neg fun z => ne q z rfl, upd_same]
  · show pl (upd w1.Z q (.tup vs)) (unl (upd w1.H q (.tup vs))) L a = _
    unfold pl at e ⊢
    by_cases ha : a ∈ L
    · rw [if_pos ha] at e
      rw [if_pos ha, unl_upd rfl, upd_ne (ne a ha)]
      exact e
    · rw [if_neg ha] at e
      rw [if_neg ha]
      exact zs a u e
  · show upd w1.Z q (.tup vs) a = none ∧ upd w1.H q (.tup vs) a ≠ none ∧ _
    rw [upd_ne (ne a ha), upd_ne (ne a ha)]
    exact y2 a ha
/-- a thing of own parts only, frozen for good -/
theorem se_frzT (h : PE X e (tD G ms lk (.tmp []) E XE ca)) : PE X e (tD G ms lk (.own 0) E XE ca) := h.weak fun σ H Q ⟨w, env, o, hH, R, ho, F⟩ => by
  refine ⟨w, env, o, hH, R, ho, ?_⟩
  cases o with
  | ex x env' => exact F
  | ok d env' =>
    intro w' v L R' x V n
    obtain ⟨h1, h3'⟩ := V
    have h3 : ∀ a ∈ L, w'.Z a = none ∧ ∀ j, a ∉ w'.Ls j := fun a ha => ⟨(h3' a ha).1, (h3' a ha).2.2.resolve_left fun ⟨j, hj, _⟩ => by cases hj⟩
    refine F ⟨pl w'.Z (unl w'.H) L, w'.H, w'.Ls⟩ v [] (R'.grow h3) ⟨fun a o e => ?_, x.hh, fun a z1 z2 z3 => ?_, x.ll, x.ln, x.al⟩ ⟨⟨rfl, h1⟩, List.nodup_nil, fun _ z => by cases z⟩ .nil
    · exact pl_same (fun a ha => (h3 a ha).1) _ _ (x.zz _ _ e)
    · by_cases ha : a ∈ L
      · obtain ⟨j, hj, q⟩ := n a ha z3
        rcases hj with hj | hj
        · exact ⟨j, hj, q⟩
        · cases hj
      · have z1' : pl w'.Z (unl w'.H) L a ≠ none := z1
        unfold pl at z1'
        rw [if_neg ha] at z1'
        exact x.zn a z1' z2 z3
/-- a tuple of own parts: its own object is frozen, its parts are not -/
theorem se_tup (m : Nat) (ha : PA X es (tA G ms lk ks E XE cs)) {x1} (hk : ∀ k ∈ ks, k = .own m := by intro k hk; repeat' (first | (exact hk.trans rfl) | (cases hk; done) | (rcases List.mem_cons.mp hk with hk | hk))) (hz : ks.length ≤ sizeLine := by show _ ≤ _; decide) : PE X (.Tuple es x1 pos) (tD G ms lk (.own (m + 1)) E XE (dN gTup cs)) := PE.weak (pe_tup ha) fun σ H Q ⟨w, env, o, hH, R, ho, F⟩ => by
  rw [← hH]
  refine tA.bind R ho F (fun j hj => hj) fun w1 env1 ds vs L R1 x1 V1 n1 ho1 F1 => ?_
  obtain ⟨z, hz', rfl⟩ := lf_some ho1
  cases hz'
  refine ⟨by rw [V1.len.2]; exact hz, fun q hq => ?_⟩
  obtain ⟨y1, y2, y3⟩ := V1.own hk
  have hl : ∀ a ∈ L, w1.H a ≠ none := fun a ha => by
    have := (VA.tmp R1.zn V1).2 a ha
    exact this.2.1
  have zq := R1.zn0 hq
  have zs : Same w1.Z (upd w1.Z q (.tup vs)) := fun a u e => by rw [upd_ne fun z => by rw [z, zq] at e; cases e]; exact e
  have ne : ∀ a ∈ L, a ≠ q := fun a ha z => by subst z; exact hl a ha hq
  refine F ⟨upd w1.Z q (.tup vs), upd w1.H q (.tup vs), w1.Ls⟩ (.ref q) L (R1.allocT hq) (x1.trans (Ext.allocT hq zq)) ⟨⟨q, vs, rfl, upd_same, by rw [V1.len.1]; exact hz, y1.imp fun d v l _ r hl' => r.frame zs fun a ha => ?_⟩, y2, fun a ha => ⟨?_, (y3 a ha).2.1, ?_⟩⟩ (by rw [bsA_own hk] at n1; exact n1)
  · show unl (upd w1.H q (.tup vs)) a = _
    rw [unl_upd rfl, upd_ne (ne a (hl' a ha))]
  · show upd w1.Z q (.tup vs) a = none
    rw [upd_ne (ne a ha)]; exact (y3 a ha).1
  · show unl (upd w1.H q (.tup vs)) a = upd w1.H q (.tup vs) a
    rw [unl_upd rfl, upd_ne (ne a ha), upd_ne (ne a ha)]; exact (y3 a ha).2.2
end
end PD
namespace PD
open PySem PySem.Spec PyProof.Rows L2 GF
/-! ### items -/
def valD {κ α : Type} [DecidableEq κ] (kvs : List (κ × α)) (k : κ) : Option α := (kvs.find? fun kv => decide (kv.1 = k)).map (·.2)
theorem valD_V {κ : Type} [DecidableEq κ] (kvs : List (κ × V)) (k : κ) : valD kvs k = valV kvs k := rfl
def keyOf : D → Option Key
  | .int i => some (.inl i)
  | .str s => some (.inr s)
  | _ => none
def keysOf : D → Option (List Key)
  | .tup ds => ds.mapM keyOf
  | _ => none
section
variable {K : PySem.W.Frag} {CA : Str → Addr} {Z h : Hp}
theorem keyOf_fz {d : D} {k : Key} {v : V} (e : keyOf d = some k) (f : Fz K CA Z d v) : v = kV k := by
  cases d <;> simp only [keyOf] at e <;> first | (cases e; exact f) | cases e
theorem FzA.at : ∀ {ds : List D} {xs : List V} {j : Nat} {d : D}, FzA K CA Z ds xs → ds[j]? = some d → ∃ v, xs[j]? = some v ∧ Fz K CA Z d v
  | [], _, _, _, _, e => by cases e
  | _ :: _, _, 0, _, h, e => by
    obtain ⟨v, r, rfl, h1, _⟩ := h
    cases e
    exact ⟨v, rfl, h1⟩
  | _ :: _, _, j + 1, _, h, e => by
    obtain ⟨v, r, rfl, _, h2⟩ := h
    exact FzA.at (j := j) h2 e
theorem FzA.len : ∀ {ds : List D} {xs : List V}, FzA K CA Z ds xs → xs.length = ds.length
  | [], _, h => by rw [show _ = _ from h]; rfl
  | _ :: _, _, h => by
    obtain ⟨v, r, rfl, _, h2⟩ := h
    rw [List.length_cons, List.length_cons, h2.len]
theorem FzA.app : ∀ {ds es : List D} {xs ys : List V}, FzA K CA Z ds xs → FzA K CA Z es ys → FzA K CA Z (ds ++ es) (xs ++ ys)
  | [], _, _, _, h, h' => by rw [show _ = _ from h]; exact h'
  | _ :: _, _, _, _, h, h' => by
    obtain ⟨v, r, rfl, h1, h2⟩ := h
    exact ⟨v, r ++ _, rfl, h1, h2.app h'⟩
theorem FzA.drop : ∀ {ds : List D} {xs : List V} (n : Nat), FzA K CA Z ds xs → FzA K CA Z (ds.drop n) (xs.drop n)
  | _, _, 0, h => h
  | [], _, n + 1, h => by rw [show _ = _ from h]; rfl
  | _ :: _, _, n + 1, h => by
    obtain ⟨v, r, rfl, h1, h2⟩ := h
    exact h2.drop n
theorem FzA.take : ∀ {ds : List D} {xs : List V} (n : Nat), FzA K CA Z ds xs → FzA K CA Z (ds.take n) (xs.take n)
  | _, _, 0, h => rfl
  | [], _, n + 1, h => by rw [show _ = _ from h]; rfl
  | _ :: _, _, n + 1, h => by
    obtain ⟨v, r, rfl, h1, h2⟩ := h
    exact ⟨v, r.take n, rfl, h1, h2.take n⟩
theorem FzA.keys : ∀ {ds : List D} {xs : List V} {ks : List Key}, FzA K CA Z ds xs → ds.mapM keyOf = some ks → xs = ks.map kV
  | [], _, _, h, e => by
    rw [show _ = _ from h]
    simp only [List.mapM_nil] at e
    cases e
    rfl
  | d :: ds, _, _, h, e => by
    obtain ⟨v, r, rfl, h1, h2⟩ := h
    rw [List.mapM_cons] at e
    cases e1 : keyOf d with
    | none => rw [e1] at e; cases e
    | some k =>
      rw [e1] at e
      cases e2 : ds.mapM keyOf with
      | none => rw [e2] at e; cases e
      | some ks =>
        rw [e2] at e
        cases e
        rw [keyOf_fz e1 h1, FzA.keys h2 e2]
        rfl
theorem keysOf_fz {d : D} {ks : List Key} {v : V} (e : keysOf d = some ks) (f : Fz K CA Z d v) : ∃ a, v = .ref a ∧ Z a = some (.tup (ks.map kV)) := by
  cases d <;> simp only [keysOf] at e <;> try (cases e)
  obtain ⟨a, xs, rfl, h1, _, h2⟩ := f
  exact ⟨a, rfl, by rw [h1, FzA.keys h2 e]⟩
theorem Al3.at {α β : Type} {R : α → β → List Addr → Prop} : ∀ {ds : List α} {xs : List β} {L : List Addr} {j : Nat} {d : α}, Al3 R ds xs L → ds[j]? = some d → ∃ v l, xs[j]? = some v ∧ R d v l ∧ ∀ a ∈ l, a ∈ L
  | [], _, _, _, _, _, e => by cases e
  | _ :: _, _, _, 0, _, h, e => by
    obtain ⟨v, r, L1, L2, rfl, rfl, h1, _⟩ := h
    cases e
    exact ⟨v, L1, rfl, h1, fun a m => List.mem_append_left _ m⟩
  | _ :: _, _, _, j + 1, _, h, e => by
    obtain ⟨v, r, L1, L2, rfl, rfl, _, h2⟩ := h
    obtain ⟨v, l, e1, e2, e3⟩ := Al3.at (j := j) h2 e
    exact ⟨v, l, e1, e2, fun a m => List.mem_append_right _ (e3 a m)⟩
end
/-- entries of a dict, as lists -/
def FzE {κ : Type} (K : PySem.W.Frag) (CA : Str → Addr) (Z : Hp) : List (κ × D) → List (κ × V) → Prop
  | [], xs => xs = []
  | (k, d) :: ds, xs => ∃ v r, xs = (k, v) :: r ∧ Fz K CA Z d v ∧ FzE K CA Z ds r
section
variable {K : PySem.W.Frag} {CA : Str → Addr} {Z h : Hp}
theorem FzK.e : ∀ {ds : List (Key × D)} {xs : List (Key × V)}, FzK K CA Z ds xs → FzE K CA Z ds xs
  | [], _, h => h
  | (_, _) :: _, _, h => let ⟨v, r, e, h1, h2⟩ := h; ⟨v, r, e, h1, FzK.e h2⟩
theorem FzT.e : ∀ {ds : List (List Key × D)} {xs : List (List Key × V)}, FzT K CA Z ds xs → FzE K CA Z ds xs
  | [], _, h => h
  | (_, _) :: _, _, h => let ⟨v, r, e, h1, h2⟩ := h; ⟨v, r, e, h1, FzT.e h2⟩
theorem FzE.at {κ : Type} : ∀ {ds : List (κ × D)} {xs : List (κ × V)} {j : Nat} {k : κ} {d : D}, FzE K CA Z ds xs → ds[j]? = some (k, d) → ∃ v, xs[j]? = some (k, v) ∧ Fz K CA Z d v
  | [], _, _, _, _, _, e => by cases e
  | (_, _) :: _, _, 0, _, _, h, e => by
    obtain ⟨v, r, rfl, h1, _⟩ := h
    cases e
    exact ⟨v, rfl, h1⟩
  | (_, _) :: _, _, j + 1, _, _, h, e => by
    obtain ⟨v, r, rfl, _, h2⟩ := h
    exact FzE.at (j := j) h2 e
theorem FzE.len {κ : Type} : ∀ {ds : List (κ × D)} {xs : List (κ × V)}, FzE K CA Z ds xs → xs.length = ds.length
  | [], _, h => by rw [show _ = _ from h]; rfl
  | (_, _) :: _, _, h => by
    obtain ⟨v, r, rfl, _, h2⟩ := h
    rw [List.length_cons, List.length_cons, h2.len]
end
/-- the place of a key -/
theorem valD_at {κ α : Type} [DecidableEq κ] : ∀ {ds : List (κ × α)} {k : κ} {d : α}, valD ds k = some d → ∃ j : Nat, ds[j]? = some (k, d) ∧ ∀ (β : Type) (xs : List (κ × β)) (v : β), xs.map (·.1) = ds.map (·.1) → xs[j]? = some (k, v) → valD xs k = some v
  | [], _, _, e => by cases e
  | (k', d') :: ds, k, d, e => by
    by_cases z : k' = k
    · subst z
      have : d' = d := by simpa [valD] using e
      subst this
      refine ⟨0, rfl, fun β xs v e1 e2 => ?_⟩
      cases xs with
      | nil => cases e2
      | cons x r => cases e2; simp [valD]
    · have e' : valD ds k = some d := by simpa [valD, z] using e
      obtain ⟨j, e1, e2⟩ := valD_at e'
      refine ⟨j + 1, e1, fun β xs v e3 e4 => ?_⟩
      cases xs with
      | nil => cases e4
      | cons x r =>
        rw [List.map_cons, List.map_cons] at e3
        injection e3 with e5 e6
        have := e2 β r v e6 e4
        have z' : ¬ x.1 = k := by rw [e5]; exact z
        simpa [valD, z'] using this
theorem valD_none {κ α β : Type} [DecidableEq κ] : ∀ {ds : List (κ × α)} {xs : List (κ × β)} {k : κ}, xs.map (·.1) = ds.map (·.1) → valD ds k = none → valD xs k = none
  | [], [], _, _, _ => rfl
  | [], _ :: _, _, h, _ => by cases h
  | _ :: _, [], _, h, _ => by cases h
  | (k', d') :: ds, x :: r, k, h, e => by
    rw [List.map_cons, List.map_cons] at h
    injection h with h1 h2
    by_cases z : k' = k
    · subst z; simp [valD] at e
    · have e' : valD ds k = none := by simpa [valD, z] using e
      have := valD_none h2 e'
      have z' : ¬ x.1 = k := by rw [h1]; exact z
      simpa [valD, z'] using this
section
variable {K : PySem.W.Frag} {CA : Str → Addr} {Z h : Hp}
theorem FzE.keys {κ : Type} : ∀ {ds : List (κ × D)} {xs : List (κ × V)}, FzE K CA Z ds xs → xs.map (·.1) = ds.map (·.1)
  | [], _, h => by rw [show _ = _ from h]; rfl
  | (_, _) :: _, _, h => by
    obtain ⟨v, r, rfl, _, h2⟩ := h
    rw [List.map_cons, List.map_cons, h2.keys]
theorem Al3.keys {κ : Type} {R : D → V → List Addr → Prop} : ∀ {ds : List (κ × D)} {xs : List (κ × V)} {L : List Addr}, Al3 (KR R) ds xs L → xs.map (·.1) = ds.map (·.1)
  | [], _, _, h => by rw [h.1]; rfl
  | (_, _) :: _, _, _, h => by
    obtain ⟨v, r, L1, L2, rfl, rfl, h1, h2⟩ := h
    rw [List.map_cons, List.map_cons, h2.keys, h1.1]
end
section
variable {G : Gc} {w : Wd} {v : V} {L : List Addr} {k : Kd}
/-- what a thing's items are -/
structure Kids (G : Gc) (w : Wd) (L : List Addr) (k : Kd) (d : D) (u : V) : Prop where
  ex : ∃ M, ValR G w d u M k.chi ∧ ∀ E w0, New E w0 k.bs L → New E w0 k.chi.bs M
theorem kid0 {d : D} {u : V} (h : Fz G.K G.CA w.Z d u) (hk : k.chi = .own 0) : Kids G w L k d u := ⟨[], by rw [hk]; exact ⟨⟨rfl, h⟩, List.nodup_nil, fun _ z => by cases z⟩, fun _ _ _ => .nil⟩
theorem kidB {m : Nat} {bs : List Nat} {d : D} {u : V} {M : List Addr} (h : Ow G.K G.CA w.Z (unl w.H) (m + 1) d u M) (hM : ∀ a ∈ M, a ∈ L) (hL : ∀ a ∈ L, ∃ j ∈ bs, a ∈ w.Ls j) : Kids G w L (.bor (m + 2) bs) d u :=
  ⟨M, ⟨h, fun a ha => hL a (hM a ha)⟩, fun E w0 n a ha hn => n a (hM a ha) hn⟩
theorem kidT {bs : List Nat} {d : D} {u : V} (h : Fz G.K G.CA (pl w.Z (unl w.H) L) d u) (hL : ∀ a ∈ L, w.Z a = none ∧ w.H a ≠ none ∧ ((∃ j ∈ bs, a ∈ w.Ls j) ∨ ∀ j, a ∉ w.Ls j)) : Kids G w L (.tmp bs) d u :=
  ⟨L, ⟨h, hL⟩, fun _ _ n => n⟩
theorem ValR.lst {ds : List D} (h : ValR G w (.lst ds) v L k) (ok : k.okc = true) (s : Same w.Z (unl w.H)) : ∃ a xs, v = .ref a ∧ unl w.H a = some (.lst xs) ∧ ds.length ≤ sizeLine ∧ xs.length = ds.length ∧ ∀ (j : Nat) (d : D), ds[j]? = some d → ∃ u, xs[j]? = some u ∧ Kids G w L k d u := by
  match k, h with
  | .own 0, h =>
    obtain ⟨⟨_, a, xs, rfl, h1, h2, h3⟩, _⟩ := h
    exact ⟨a, xs, rfl, s _ _ h1, h2, h3.len, fun j d e => let ⟨u, e1, e2⟩ := h3.at e; ⟨u, e1, kid0 e2 rfl⟩⟩
  | .own 1, h =>
    obtain ⟨⟨a, xs, L', rfl, h1, h2, _, h3⟩, _⟩ := h
    exact ⟨a, xs, rfl, h1, h2, h3.length, fun j d e => let ⟨u, l, e1, e2, _⟩ := h3.at e; ⟨u, e1, kid0 e2.2 rfl⟩⟩
  | .bor 0 bs, h =>
    obtain ⟨⟨_, a, xs, rfl, h1, h2, h3⟩, _⟩ := h
    exact ⟨a, xs, rfl, s _ _ h1, h2, h3.len, fun j d e => let ⟨u, e1, e2⟩ := h3.at e; ⟨u, e1, kid0 e2 rfl⟩⟩
  | .bor 1 bs, h =>
    obtain ⟨⟨a, xs, L', rfl, h1, h2, _, h3⟩, _⟩ := h
    exact ⟨a, xs, rfl, h1, h2, h3.length, fun j d e => let ⟨u, l, e1, e2, _⟩ := h3.at e; ⟨u, e1, kid0 e2.2 rfl⟩⟩
  | .bor (m + 2) bs, h =>
    obtain ⟨⟨a, xs, L', rfl, h1, h2, rfl, h3⟩, hb⟩ := h
    exact ⟨a, xs, rfl, h1, h2, h3.length, fun j d e => let ⟨u, l, e1, e2, e3⟩ := h3.at e; ⟨u, e1, kidB e2 (fun a ha => List.mem_cons_of_mem _ (e3 a ha)) hb⟩⟩
  | .tmp bs, h =>
    obtain ⟨⟨a, xs, rfl, h1, h2, h3⟩, hb⟩ := h
    exact ⟨a, xs, rfl, pl_sub s _ _ h1, h2, h3.len, fun j d e => let ⟨u, e1, e2⟩ := h3.at e; ⟨u, e1, kidT e2 hb⟩⟩
theorem ValR.tup {ds : List D} (h : ValR G w (.tup ds) v L k) (ok : k.okc = true) (s : Same w.Z (unl w.H)) : ∃ a xs, v = .ref a ∧ unl w.H a = some (.tup xs) ∧ ds.length ≤ sizeLine ∧ xs.length = ds.length ∧ ∀ (j : Nat) (d : D), ds[j]? = some d → ∃ u, xs[j]? = some u ∧ Kids G w L k d u := by
  match k, h with
  | .own 0, h =>
    obtain ⟨⟨_, a, xs, rfl, h1, h2, h3⟩, _⟩ := h
    exact ⟨a, xs, rfl, s _ _ h1, h2, h3.len, fun j d e => let ⟨u, e1, e2⟩ := h3.at e; ⟨u, e1, kid0 e2 rfl⟩⟩
  | .own 1, h =>
    obtain ⟨⟨a, xs, rfl, h1, h2, h3⟩, _⟩ := h
    exact ⟨a, xs, rfl, s _ _ h1, h2, h3.length, fun j d e => let ⟨u, l, e1, e2, _⟩ := h3.at e; ⟨u, e1, kid0 e2.2 rfl⟩⟩
  | .bor 0 bs, h =>
    obtain ⟨⟨_, a, xs, rfl, h1, h2, h3⟩, _⟩ := h
    exact ⟨a, xs, rfl, s _ _ h1, h2, h3.len, fun j d e => let ⟨u, e1, e2⟩ := h3.at e; ⟨u, e1, kid0 e2 rfl⟩⟩
  | .bor 1 bs, h =>
    obtain ⟨⟨a, xs, rfl, h1, h2, h3⟩, _⟩ := h
    exact ⟨a, xs, rfl, s _ _ h1, h2, h3.length, fun j d e => let ⟨u, l, e1, e2, _⟩ := h3.at e; ⟨u, e1, kid0 e2.2 rfl⟩⟩
  | .bor (m + 2) bs, h =>
    obtain ⟨⟨a, xs, rfl, h1, h2, h3⟩, hb⟩ := h
    exact ⟨a, xs, rfl, s _ _ h1, h2, h3.length, fun j d e => let ⟨u, l, e1, e2, e3⟩ := h3.at e; ⟨u, e1, kidB e2 e3 hb⟩⟩
  | .tmp bs, h =>
    obtain ⟨⟨a, xs, rfl, h1, h2, h3⟩, hb⟩ := h
    exact ⟨a, xs, rfl, pl_sub s _ _ h1, h2, h3.len, fun j d e => let ⟨u, e1, e2⟩ := h3.at e; ⟨u, e1, kidT e2 hb⟩⟩
theorem ValR.dct {ds : List (Key × D)} (h : ValR G w (.dct ds) v L k) (ok : k.okc = true) (s : Same w.Z (unl w.H)) : ∃ a xs, v = .ref a ∧ unl w.H a = some (.dK xs) ∧ ds.length ≤ sizeLine ∧ xs.map (·.1) = ds.map (·.1) ∧ ∀ (j : Nat) (c : Key) d, ds[j]? = some (c, d) → ∃ u, xs[j]? = some (c, u) ∧ Kids G w L k d u := by
  match k, h with
  | .own 0, h =>
    obtain ⟨⟨_, a, xs, rfl, h1, h2, h3⟩, _⟩ := h
    exact ⟨a, xs, rfl, s _ _ h1, h2, h3.e.keys, fun j c d e => let ⟨u, e1, e2⟩ := h3.e.at e; ⟨u, e1, kid0 e2 rfl⟩⟩
  | .own 1, h =>
    obtain ⟨⟨a, xs, L', rfl, h1, h2, _, h3⟩, _⟩ := h
    exact ⟨a, xs, rfl, h1, h2, h3.keys, fun j c d e => let ⟨⟨c', u⟩, l, e1, e2, _⟩ := h3.at e; ⟨u, by rw [e1]; cases e2.1; rfl, kid0 e2.2.2 rfl⟩⟩
  | .bor 0 bs, h =>
    obtain ⟨⟨_, a, xs, rfl, h1, h2, h3⟩, _⟩ := h
    exact ⟨a, xs, rfl, s _ _ h1, h2, h3.e.keys, fun j c d e => let ⟨u, e1, e2⟩ := h3.e.at e; ⟨u, e1, kid0 e2 rfl⟩⟩
  | .bor 1 bs, h =>
    obtain ⟨⟨a, xs, L', rfl, h1, h2, _, h3⟩, _⟩ := h
    exact ⟨a, xs, rfl, h1, h2, h3.keys, fun j c d e => let ⟨⟨c', u⟩, l, e1, e2, _⟩ := h3.at e; ⟨u, by rw [e1]; cases e2.1; rfl, kid0 e2.2.2 rfl⟩⟩
  | .bor (m + 2) bs, h =>
    obtain ⟨⟨a, xs, L', rfl, h1, h2, rfl, h3⟩, hb⟩ := h
    exact ⟨a, xs, rfl, h1, h2, h3.keys, fun j c d e => let ⟨⟨c', u⟩, l, e1, e2, e3⟩ := h3.at e; ⟨u, by rw [e1]; cases e2.1; rfl, kidB e2.2 (fun a ha => List.mem_cons_of_mem _ (e3 a ha)) hb⟩⟩
  | .tmp bs, h =>
    obtain ⟨⟨a, xs, rfl, h1, h2, h3⟩, hb⟩ := h
    exact ⟨a, xs, rfl, pl_sub s _ _ h1, h2, h3.e.keys, fun j c d e => let ⟨u, e1, e2⟩ := h3.e.at e; ⟨u, e1, kidT e2 hb⟩⟩
theorem ValR.dtt {ds : List (List Key × D)} (h : ValR G w (.dtt ds) v L k) (ok : k.okc = true) (s : Same w.Z (unl w.H)) : ∃ a xs, v = .ref a ∧ unl w.H a = some (.dT xs) ∧ ds.length ≤ sizeLine ∧ xs.map (·.1) = ds.map (·.1) ∧ ∀ (j : Nat) (c : List Key) d, ds[j]? = some (c, d) → ∃ u, xs[j]? = some (c, u) ∧ Kids G w L k d u := by
  match k, h with
  | .own 0, h =>
    obtain ⟨⟨_, a, xs, rfl, h1, h2, h3⟩, _⟩ := h
    exact ⟨a, xs, rfl, s _ _ h1, h2, h3.e.keys, fun j c d e => let ⟨u, e1, e2⟩ := h3.e.at e; ⟨u, e1, kid0 e2 rfl⟩⟩
  | .own 1, h =>
    obtain ⟨⟨a, xs, L', rfl, h1, h2, _, h3⟩, _⟩ := h
    exact ⟨a, xs, rfl, h1, h2, h3.keys, fun j c d e => let ⟨⟨c', u⟩, l, e1, e2, _⟩ := h3.at e; ⟨u, by rw [e1]; cases e2.1; rfl, kid0 e2.2.2 rfl⟩⟩
  | .bor 0 bs, h =>
    obtain ⟨⟨_, a, xs, rfl, h1, h2, h3⟩, _⟩ := h
    exact ⟨a, xs, rfl, s _ _ h1, h2, h3.e.keys, fun j c d e => let ⟨u, e1, e2⟩ := h3.e.at e; ⟨u, e1, kid0 e2 rfl⟩⟩
  | .bor 1 bs, h =>
    obtain ⟨⟨a, xs, L', rfl, h1, h2, _, h3⟩, _⟩ := h
    exact ⟨a, xs, rfl, h1, h2, h3.keys, fun j c d e => let ⟨⟨c', u⟩, l, e1, e2, _⟩ := h3.at e; ⟨u, by rw [e1]; cases e2.1; rfl, kid0 e2.2.2 rfl⟩⟩
  | .bor (m + 2) bs, h =>
    obtain ⟨⟨a, xs, L', rfl, h1, h2, rfl, h3⟩, hb⟩ := h
    exact ⟨a, xs, rfl, h1, h2, h3.keys, fun j c d e => let ⟨⟨c', u⟩, l, e1, e2, e3⟩ := h3.at e; ⟨u, by rw [e1]; cases e2.1; rfl, kidB e2.2 (fun a ha => List.mem_cons_of_mem _ (e3 a ha)) hb⟩⟩
  | .tmp bs, h =>
    obtain ⟨⟨a, xs, rfl, h1, h2, h3⟩, hb⟩ := h
    exact ⟨a, xs, rfl, pl_sub s _ _ h1, h2, h3.e.keys, fun j c d e => let ⟨u, e1, e2⟩ := h3.e.at e; ⟨u, e1, kidT e2 hb⟩⟩
end
/-! o[i] -/
def gSub : D → D → Option D
  | .lst ds, .int i => atI ds i
  | .tup ds, .int i => atI ds i
  | .scr ns, .int i => (atI ns i).map .int
  | .str s, .int i => if s.length ≤ sizeLine then (atI s.cps.toList i).map fun c => .str ⟨#[c]⟩ else none
  | .dct ks, c => (keyOf c).bind (valD ks)
  | .dtt ks, c => (keysOf c).bind (valD ks)
  | _, _ => none
theorem atI_len {α β : Type} {xs : List α} {ys : List β} (h : ys.length = xs.length) {i : Int} {d : α} (e : atI xs i = some d) : ∃ j : Nat, xs[j]? = some d ∧ ∀ v, ys[j]? = some v → atI ys i = some v := by
  unfold atI at e ⊢
  cases q : ixN xs.length i with
  | none => rw [q] at e; cases e
  | some j =>
    rw [q] at e
    exact ⟨j, e, fun v hv => by rw [h, q]; exact hv⟩
theorem _root_.L2.PE.or {X : Cx} {e : Expr} {t u : TE} (h : PE X e t) (h' : PE X e u) : PE X e fun σ H Q => t σ H Q ∨ u σ H Q := ⟨fun pins s σ H Q I q => q.elim (h.run pins s σ H Q I) (h'.run pins s σ H Q I)⟩
theorem bnd_some {α β : Type} {c : Ev → Option (Out α)} {f : α → Ev → Option (Out β)} {env : Ev} {o : Out β} (h : bnd c f env = some o) : (∃ a e, c env = some (.ok a e) ∧ f a e = some o) ∨ ∃ x e, c env = some (.ex x e) ∧ o = .ex x e := by
  unfold bnd at h
  split at h
  · rename_i a e1 he; exact .inl ⟨a, e1, he, h⟩
  · rename_i x e1 he; cases h; exact .inr ⟨x, e1, he, rfl⟩
  · cases h
section
variable {X : Cx} {G : Gc} {ms lk : List Nat} {k ka kb : Kd} {ks : List Kd} {E Ea Eb : List Nat} {XE : XK} {pos p : Pos} {a b e : Expr} {es : List Expr} {ca cb : DE} {cs : DA}
theorem Kids.fin {w w1 : Wd} {env1 : Ev} {σ : L2.St} {Q : VK} {d : D} {u : V} {L : List Addr} (h : Kids G w1 L k d u) (F : Fin G ms lk k.chi E XE w σ Q (.ok d env1)) (R1 : Rel G ms lk w1 env1 σ) (x1 : Ext E w w1) (n : New E w k.bs L) : Q u w1.H := by
  obtain ⟨M, h1, h2⟩ := h.ex
  exact F w1 u M R1 x1 h1 (h2 E w n)
/-- two parts, one behind the other -/
theorem tD.two {w : Wd} {env : Ev} {σ : L2.St} {Q : VK} {P : V → V → Hp → Prop} {g : D → D → Option D} {o : Out D} (R : Rel G ms lk w env σ) (ho : d2 g ca cb env = some o) (F : Fin G ms lk k E XE w σ Q o) (hE : ∀ j ∈ Ea, j ∈ E) (hE2 : ∀ j ∈ Eb, j ∈ E) (hd : ∀ j ∈ ka.bs, j ∉ Eb)
    (hp : ∀ d d2 z env2 w2 v v2 L L2, o = .ok z env2 → g d d2 = some z → (∃ e1, ca env = some (.ok d e1)) → Rel G ms lk w2 env2 σ → Ext E w w2 → ValR G w2 d v L ka → New E w ka.bs L → ValR G w2 d2 v2 L2 kb → New E w kb.bs L2 → P v v2 w2.H) :
    tD G ms lk ka Ea XE ca σ w.H fun x H1 => tD G ms lk kb Eb XE cb σ H1 fun y H2 => P x y H2 := by
  rcases bnd_some ho with ⟨d, env1, he, ho1⟩ | ⟨x, e0, he, rfl⟩
  · refine ⟨w, env, _, rfl, R, he, fun w1 v L R1 x1 V1 n1 => ?_⟩
    rcases bnd_some ho1 with ⟨d2, env2, he2, ho2⟩ | ⟨x, e0, he2, rfl⟩
    · obtain ⟨z, hz, rfl⟩ := lf_some ho2
      exact ⟨w1, env1, _, rfl, R1, he2, fun w2 v2 L2 R2 x2 V2' n2 => hp d d2 z env2 w2 v v2 L L2 rfl hz ⟨env1, he⟩ R2 ((x1.mono hE).trans (x2.mono hE2)) (V1.ext x2 hd R1.dz) (n1.mono hE fun _ z => z) V2' ((n2.mono hE2 fun _ z => z).back (x1.mono hE))⟩
    · exact ⟨w1, env1, _, rfl, R1, he2, fun w' p R' x' P => F w' p R' ((x1.mono hE).trans (x'.mono hE2)) P⟩
  · exact ⟨w, env, _, rfl, R, he, fun w' p R' x' P => F w' p R' (x'.mono hE) P⟩
def isDic : D → Bool
  | .dct _ => true
  | .dtt _ => true
  | _ => false
theorem keyOf_some {c : D} {z : D} {ks : List (Key × D)} (e : (keyOf c).bind (valD ks) = some z) : ∃ k, keyOf c = some k ∧ valD ks k = some z := by
  cases q : keyOf c with
  | none => rw [q] at e; cases e
  | some k => rw [q] at e; exact ⟨k, rfl, e⟩
theorem se_subG {g : D → D → Option D} (hg : ∀ d i z, g d i = some z → gSub d i = some z ∧ ((∃ ds, d = .tup ds) → ka.okt = true)) (hu : X.A.units + 1 < cLine) (ha : PE X a (tD G ms lk ka Ea XE ca)) (hb : PE X b (tD G ms lk kb Eb XE cb)) (hs : ∀ o i, subscripted b false o i = operate [o, i] (getItem o i)) (hd : ∀ j ∈ ka.bs, j ∉ Eb) (ok : ka.okc = true) (hK : X.K = G.K) :
    PE X (.Subscript a b pos) (tD G ms lk ka.chi (Ea ++ Eb) XE (d2 g ca cb)) := PE.weak (PE.or (pe_ix ix_seq ha hb hs) (pe_dget hu ha hb hs)) fun σ H Q ⟨w, env, o, hH, R, ho, F⟩ => by
  rw [← hH]
  by_cases dic : ∃ d e1, ca env = some (.ok d e1) ∧ isDic d = true
  · obtain ⟨d0, e0, q0, q1⟩ := dic
    refine .inr (tD.two R ho F (fun j hj => List.mem_append_left _ hj) (fun j hj => List.mem_append_right _ hj) hd fun d d2 z env2 w2 v v2 L L2 ez hz he R2 x2 V1 n1 V2' n2 => ?_)
    subst ez
    have hz0 := hz
    replace hz := (hg _ _ _ hz).1
    obtain ⟨e1, he⟩ := he
    rw [q0] at he
    cases he
    match d0, V1, hz, q1 with
    | .dct ks, V1, hz, _ =>
      cases q : keyOf d2 with
      | none => simp only [gSub, q] at hz; cases hz
      | some c =>
        have hz' : valD ks c = some z := by simpa [gSub, q] using hz
        obtain ⟨a, xs, rfl, h1, _, h2, h3⟩ := V1.dct ok R2.sub
        obtain ⟨j, h4, h5⟩ := valD_at hz'
        obtain ⟨u, h6, h7⟩ := h3 j c z h4
        exact ⟨a, u, rfl, .inl ⟨xs, c, unl_dK h1, keyOf_fz q (V2'.rd R2.sub), (h5 V xs u h2 h6).symm⟩, h7.fin F R2 x2 n1⟩
    | .dtt ks, V1, hz, _ =>
      cases q : keysOf d2 with
      | none => simp only [gSub, q] at hz; cases hz
      | some c =>
        have hz' : valD ks c = some z := by simpa [gSub, q] using hz
        obtain ⟨a, xs, rfl, h1, _, h2, h3⟩ := V1.dtt ok R2.sub
        obtain ⟨j, h4, h5⟩ := valD_at hz'
        obtain ⟨u, h6, h7⟩ := h3 j c z h4
        obtain ⟨b, rfl, hb⟩ := keysOf_fz q (V2'.rd R2.sub)
        exact ⟨a, u, rfl, .inr ⟨xs, c, b, unl_dT h1, rfl, unl_tup hb, (h5 V xs u h2 h6).symm⟩, h7.fin F R2 x2 n1⟩
  · refine .inl (tD.two R ho F (fun j hj => List.mem_append_left _ hj) (fun j hj => List.mem_append_right _ hj) hd fun d d2 z env2 w2 v v2 L L2 ez hz he R2 x2 V1 n1 V2' n2 => ?_)
    subst ez
    have hz0 := hz
    replace hz := (hg _ _ _ hz).1
    obtain ⟨e1, he⟩ := he
    rw [hK]
    match d, d2, V1, V2', hz, hz0 with
    | .lst ds, .int i, V1, V2', hz, hz0 =>
      obtain ⟨a, xs, rfl, h1, _, h2, h3⟩ := V1.lst ok R2.sub
      obtain ⟨j, h4, h5⟩ := atI_len h2 (show atI ds i = some z from hz)
      obtain ⟨u, h6, h7⟩ := h3 j z h4
      exact .inl ⟨a, xs, i, u, rfl, V2'.rd R2.sub, .inl (.inl (unl_lst h1)), h5 u h6, h7.fin F R2 x2 n1⟩
    | .tup ds, .int i, V1, V2', hz, hz0 =>
      obtain ⟨a, xs, rfl, h1, _, h2, h3⟩ := V1.tup ok R2.sub
      obtain ⟨j, h4, h5⟩ := atI_len h2 (show atI ds i = some z from hz)
      obtain ⟨u, h6, h7⟩ := h3 j z h4
      exact .inr (.inl ⟨a, xs, i, u, rfl, V2'.rd R2.sub, .inl (.inl (unl_tup h1)), h5 u h6, h7.fin F R2 x2 n1⟩)
    | .scr ns, .int i, V1, V2', hz, hz0 =>
      obtain ⟨a, rfl, h1⟩ := V1.rd R2.sub
      obtain ⟨y, h2, rfl⟩ := Option.map_eq_some_iff.mp (show (atI ns i).map D.int = some z from hz)
      obtain ⟨j, h3, h4⟩ := atI_len (ys := ns.map V.int) (List.length_map _) h2
      have h5 := h4 (.int y) (by rw [List.getElem?_map, h3]; rfl)
      refine .inl ⟨a, ns.map V.int, i, .int y, rfl, V2'.rd R2.sub, unl_sqL h1, h5, F w2 (.int y) [] R2 x2 ?_ .nil⟩
      cases ka with
      | own m => exact ValR.atom rfl
      | bor m bs => cases m with
        | zero => exact ValR.atom rfl
        | succ m => cases m with
          | zero => exact ValR.atom rfl
          | succ m => exact ⟨av_ow rfl, fun _ z => by cases z⟩
      | tmp bs => exact ⟨rfl, fun _ z => by cases z⟩
    | .str s, .int i, V1, V2', hz, hz0 =>
      have hz : (if s.length ≤ sizeLine then (atI s.cps.toList i).map fun c => D.str ⟨#[c]⟩ else none) = some z := hz
      split at hz
      · rename_i hl
        obtain ⟨c, hc, rfl⟩ := Option.map_eq_some_iff.mp hz
        refine .inr (.inr ⟨s, i, c, V1.rd R2.sub, V2'.rd R2.sub, hl, hc, F w2 (.str ⟨#[c]⟩) [] R2 x2 ?_ .nil⟩)
        cases ka with
        | own m => exact ValR.atom rfl
        | bor m bs => cases m with
          | zero => exact ValR.atom rfl
          | succ m => cases m with
            | zero => exact ValR.atom rfl
            | succ m => exact ⟨av_ow rfl, fun _ z => by cases z⟩
        | tmp bs => exact ⟨rfl, fun _ z => by cases z⟩
      · cases hz
    | .dct ks, d2, _, _, _, _ => exact absurd ⟨_, e1, he, rfl⟩ dic
    | .dtt ks, d2, _, _, _, _ => exact absurd ⟨_, e1, he, rfl⟩ dic
/-- a list's items, a dict's; of a thing that the slot owns deeply, no tuple's -/
def gSubL : D → D → Option D
  | .tup _, _ => none
  | d, i => gSub d i
theorem se_sub (hu : X.A.units + 1 < cLine) (ha : PE X a (tD G ms lk ka Ea XE ca)) (hb : PE X b (tD G ms lk kb Eb XE cb)) (hs : ∀ o i, subscripted b false o i = operate [o, i] (getItem o i)) (hd : ∀ j ∈ ka.bs, j ∉ Eb := by decide) (ok : ka.okc = true := by rfl) (okt : ka.okt = true := by rfl) (hK : X.K = G.K := by rfl) :
    PE X (.Subscript a b pos) (tD G ms lk ka.chi (Ea ++ Eb) XE (d2 gSub ca cb)) := se_subG (fun _ _ _ h => ⟨h, fun _ => okt⟩) hu ha hb hs hd ok hK
theorem se_subL (hu : X.A.units + 1 < cLine) (ha : PE X a (tD G ms lk ka Ea XE ca)) (hb : PE X b (tD G ms lk kb Eb XE cb)) (hs : ∀ o i, subscripted b false o i = operate [o, i] (getItem o i)) (hd : ∀ j ∈ ka.bs, j ∉ Eb := by decide) (ok : ka.okc = true := by rfl) (hK : X.K = G.K := by rfl) :
    PE X (.Subscript a b pos) (tD G ms lk ka.chi (Ea ++ Eb) XE (d2 gSubL ca cb)) := se_subG (fun d i z h => ⟨by
      unfold gSubL at h
      split at h
      · cases h
      · exact h, fun ⟨ds, e⟩ => by subst e; cases h⟩) hu ha hb hs hd ok hK

end
end PD
namespace PD
open PySem PySem.Spec PyProof.Rows L2 GF
/-! ### the rules of operators and built-ins, seen from the trees -/
section
variable {X : Cx} {G : Gc}
def gAdd : D → D → Option D
  | .int i, .int j => some (.int (i + j))
  | .str a, .str b => if a.length + b.length ≤ sizeLine then some (.str (a ++ b)) else none
  | _, _ => none
def rAddV : R2 := fun x y H Q => (rI0 fun i j => .int (i + j)) x y H Q ∨ ∃ i j, x = .str i ∧ y = .str j ∧ i.length + j.length ≤ sizeLine ∧ Q (.str (i ++ j)) H
theorem op_addV : OpR X (binaryOp .Add) rAddV := op_add.or op_add_str
theorem v_add : V2 G rAddV gAdd := fun H x y dx dy d Q hx hy e => by
  unfold gAdd at e
  split at e
  · cases e; exact ⟨_, rfl, fun q => .inl ⟨_, _, hx, hy, q⟩⟩
  · split at e
    · rename_i hl; cases e; exact ⟨_, rfl, fun q => .inr ⟨_, _, hx, hy, hl, q⟩⟩
    · cases e
  · cases e
def gI0 (f : Int → Int → Int) : D → D → Option D
  | .int i, .int j => some (.int (f i j))
  | _, _ => none
def gI (C : Int → Int → Prop) [∀ i j, Decidable (C i j)] (f : Int → Int → Int) : D → D → Option D
  | .int i, .int j => if C i j then some (.int (f i j)) else none
  | _, _ => none
theorem v_I0 (f : Int → Int → Int) : V2 G (rI0 fun i j => .int (f i j)) (gI0 f) := fun H x y dx dy d Q hx hy e => by
  unfold gI0 at e
  split at e
  · cases e; exact ⟨_, rfl, fun q => ⟨_, _, hx, hy, q⟩⟩
  · cases e
theorem v_I (C : Int → Int → Prop) [∀ i j, Decidable (C i j)] (f : Int → Int → Int) : V2 G (rI C fun i j => .int (f i j)) (gI C f) := fun H x y dx dy d Q hx hy e => by
  unfold gI at e
  split at e
  · split at e
    · rename_i hc; cases e; exact ⟨_, rfl, fun q => ⟨_, _, hx, hy, hc, q⟩⟩
    · cases e
  · cases e
instance (i j : Int) : Decidable (CMulW i j) := by unfold CMulW; infer_instance
instance (i j : Int) : Decidable (CDivW i j) := by unfold CDivW; infer_instance
instance (i j : Int) : Decidable (CPowW i j) := by unfold CPowW; infer_instance
abbrev gSubI := gI0 fun i j => i - j
abbrev gMul := gI CMulW fun i j => i * j
abbrev gMod := gI (fun _ j => 0 < j) fun i j => i % j
abbrev gDiv := gI CDivW fun i j => i / j
abbrev gPow := gI CPowW fun i j => i ^ j.toNat
def gNeg : D → Option D
  | .int i => some (.int (-i))
  | _ => none
theorem v_neg : V1 G (rU fun i => .int (-i)) gNeg := fun H x dx d Q hx e => by
  cases dx with
  | int i => cases e; exact ⟨_, rfl, fun q => ⟨i, hx, q⟩⟩
  | _ => cases e
/-! comparisons -/
def gCmp (f : Int → Int → Bool) (g : Str → Str → Bool) : D → D → Option D
  | .int i, .int j => some (.bl (f i j))
  | .str a, .str b => some (.bl (g a b))
  | _, _ => none
abbrev ltS (a b : Str) : Bool := decide (a.cps.toList < b.cps.toList)
def rCmpV (f : Int → Int → Bool) (g : Str → Str → Bool) : R2 := fun x y H Q => (rI0 fun i j => .bl (f i j)) x y H Q ∨ ∃ i j, x = .str i ∧ y = .str j ∧ Q (.bl (g i j)) H
theorem v_cmp (f : Int → Int → Bool) (g : Str → Str → Bool) : V2 G (rCmpV f g) (gCmp f g) := fun H x y dx dy d Q hx hy e => by
  unfold gCmp at e
  split at e
  · cases e; exact ⟨_, rfl, fun q => .inl ⟨_, _, hx, hy, q⟩⟩
  · cases e; exact ⟨_, rfl, fun q => .inr ⟨_, _, hx, hy, q⟩⟩
  · cases e
abbrev gLt := gCmp (fun i j => decide (i < j)) ltS
abbrev gLe := gCmp (fun i j => decide (i ≤ j)) fun a b => !decide (b.cps.toList < a.cps.toList)
abbrev gGt := gCmp (fun i j => decide (j < i)) fun a b => decide (b.cps.toList < a.cps.toList)
abbrev gGe := gCmp (fun i j => decide (j ≤ i)) fun a b => !decide (a.cps.toList < b.cps.toList)
theorem op_ltV : OpR X (compareOp .Lt) (rCmpV (fun i j => decide (i < j)) ltS) := op_lt.or op_lt_str
theorem op_leV : OpR X (compareOp .LtE) (rCmpV (fun i j => decide (i ≤ j)) fun a b => !decide (b.cps.toList < a.cps.toList)) := op_le.or op_le_str
theorem op_geV : OpR X (compareOp .GtE) (rCmpV (fun i j => decide (j ≤ i)) fun a b => !decide (a.cps.toList < b.cps.toList)) := op_ge.or op_ge_str
theorem op_gtV : OpR X (compareOp .Gt) (rCmpV (fun i j => decide (j < i)) fun a b => decide (b.cps.toList < a.cps.toList)) := op_gt.or op_gt_str
/-! == -/
mutual
def toP : D → PyData
  | .non => .none
  | .bl b => .bool b
  | .int i => .int i
  | .str s => .str s
  | .lst ds => .list (toPs ds)
  | .tup ds => .tuple (toPs ds)
  | .dct _ => .none
  | .dtt _ => .none
  | .obj _ _ => .none
  | .scr _ => .none
def toPs : List D → List PyData
  | [] => []
  | d :: ds => toP d :: toPs ds
end
mutual
def okP : D → Bool
  | .lst ds => okPs ds
  | .tup ds => okPs ds
  | .dct _ => false
  | .dtt _ => false
  | .obj _ _ => false
  | .scr _ => false
  | _ => true
def okPs : List D → Bool
  | [] => true
  | d :: ds => okP d && okPs ds
end
mutual
theorem dp_of {K : PySem.W.Frag} {CA : Str → Addr} {H : Hp} : ∀ {d : D} {v : V}, Fz K CA (unl H) d v → okP d = true → Dp K H v (toP d)
  | .non, _, h, _ => by cases (show _ = _ from h); exact .non
  | .bl b, _, h, _ => by cases (show _ = _ from h); exact .bl b
  | .int i, _, h, _ => by cases (show _ = _ from h); exact .int i
  | .str s, _, h, _ => by cases (show _ = _ from h); exact .str s
  | .lst ds, _, h, o => by
    obtain ⟨a, xs, rfl, h1, _, h2⟩ := h
    exact .lst (.inl (.inl (unl_lst h1))) (dps_of h2 o)
  | .tup ds, _, h, o => by
    obtain ⟨a, xs, rfl, h1, _, h2⟩ := h
    exact .tup (.inl (.inl (unl_tup h1))) (dps_of h2 o)
  | .dct _, _, _, o => by cases o
  | .dtt _, _, _, o => by cases o
  | .obj _ _, _, _, o => by cases o
  | .scr _, _, _, o => by cases o
theorem dps_of {K : PySem.W.Frag} {CA : Str → Addr} {H : Hp} : ∀ {ds : List D} {vs : List V}, FzA K CA (unl H) ds vs → okPs ds = true → DpAll K H vs (toPs ds)
  | [], _, h, _ => by cases (show _ = _ from h); exact .nil
  | d :: ds, _, h, o => by
    obtain ⟨v, r, rfl, h1, h2⟩ := h
    obtain ⟨o1, o2⟩ := Bool.and_eq_true_iff.mp (show (okP d && okPs ds) = true from o)
    exact .cons (dp_of h1 o1) (dps_of h2 o2)
end
/-- ==, both sides without dicts -/
def eqA : D → D → Option Bool
  | .int i, .int j => some (decide (i = j))
  | .str i, .str j => some (decide (i = j))
  | .bl i, .bl j => some (decide (i = j))
  | _, _ => none
def eqD (d e : D) : Option Bool := (eqA d e).or <| if okP d = true ∧ okP e = true ∧ SeqAt.shaped (toP d) = true ∧ SeqAt.shaped (toP e) = true then some (PyData.eqv (toP d) (toP e)) else none
theorem eqA_av {d e : D} {b : Bool} (h : eqA d e = some b) : ∃ u v, av d = some u ∧ av e = some v ∧ scal u v = true ∧ decide (u = v) = b := by
  unfold eqA at h
  split at h <;> cases h
  · exact ⟨_, _, rfl, rfl, rfl, by simp⟩
  · exact ⟨_, _, rfl, rfl, rfl, by simp⟩
  · exact ⟨_, _, rfl, rfl, rfl, by simp⟩
theorem av_eq {K : PySem.W.Frag} {CA : Str → Addr} {Z : Hp} {d : D} {u v : V} (e : av d = some u) (h : Fz K CA Z d v) : v = u := by
  cases d with
  | non => cases e; exact h
  | bl b => cases e; exact h
  | int b => cases e; exact h
  | str b => cases e; exact h
  | _ => cases e
def gEq (d e : D) : Option D := (eqD d e).map .bl
def gNe (d e : D) : Option D := (eqD d e).map fun b => .bl !b
def rEqV (K : PySem.W.Frag) : R2 := fun x y H Q => rEq x y H Q ∨ rEqD K x y H Q
def rNeV (K : PySem.W.Frag) : R2 := fun x y H Q => rNe x y H Q ∨ rNeD K x y H Q
theorem op_eqV (hu : X.A.units + 64 < cLine) : OpR X (compareOp .Eq) (rEqV X.K) := op_eq.or (op_eqD hu)
theorem op_neV (hu : X.A.units + 64 < cLine) : OpR X (compareOp .NotEq) (rNeV X.K) := op_ne.or (op_neD hu)
theorem v_eq : V2 G (rEqV G.K) gEq := fun H x y dx dy d Q hx hy e => by
  obtain ⟨b, hb, rfl⟩ := Option.map_eq_some_iff.mp e
  refine ⟨_, rfl, fun q => ?_⟩
  unfold eqD at hb
  cases ea : eqA dx dy with
  | some b' =>
    rw [ea] at hb
    cases hb
    obtain ⟨u, v, e1, e2, e3, e4⟩ := eqA_av ea
    cases (av_eq e1 hx); cases (av_eq e2 hy)
    exact .inl ⟨e3, by rw [e4]; exact q⟩
  | none =>
    rw [ea, Option.none_or] at hb
    split at hb
    · rename_i h; cases hb
      exact .inr ⟨_, _, dp_of hx h.1, dp_of hy h.2.1, h.2.2.1, h.2.2.2, q⟩
    · cases hb
theorem v_ne : V2 G (rNeV G.K) gNe := fun H x y dx dy d Q hx hy e => by
  obtain ⟨b, hb, rfl⟩ := Option.map_eq_some_iff.mp e
  refine ⟨_, rfl, fun q => ?_⟩
  unfold eqD at hb
  cases ea : eqA dx dy with
  | some b' =>
    rw [ea] at hb
    cases hb
    obtain ⟨u, v, e1, e2, e3, e4⟩ := eqA_av ea
    cases (av_eq e1 hx); cases (av_eq e2 hy)
    exact .inl ⟨e3, by rw [e4]; exact q⟩
  | none =>
    rw [ea, Option.none_or] at hb
    split at hb
    · rename_i h; cases hb
      exact .inr ⟨_, _, dp_of hx h.1, dp_of hy h.2.1, h.2.2.1, h.2.2.2, q⟩
    · cases hb
/-! is None -/
def isNon : D → Bool
  | .non => true
  | _ => false
theorem isNon_fz {K : PySem.W.Frag} {CA : Str → Addr} {Z : Hp} {d : D} {v : V} (h : Fz K CA Z d v) : decide (v = .non) = isNon d := by
  cases d with
  | non => cases (show _ = _ from h); rfl
  | bl b => cases (show _ = _ from h); rfl
  | int b => cases (show _ = _ from h); rfl
  | str b => cases (show _ = _ from h); rfl
  | lst b => obtain ⟨a, xs, rfl, _⟩ := h; rfl
  | tup b => obtain ⟨a, xs, rfl, _⟩ := h; rfl
  | dct b => obtain ⟨a, xs, rfl, _⟩ := h; rfl
  | dtt b => obtain ⟨a, xs, rfl, _⟩ := h; rfl
  | obj c b => obtain ⟨a, dx, xs, rfl, _⟩ := h; rfl
  | scr b => obtain ⟨a, rfl, _⟩ := h; rfl
def gIs : D → D → Option D
  | d, .non => some (.bl (isNon d))
  | _, _ => none
def gIsNot : D → D → Option D
  | d, .non => some (.bl (!isNon d))
  | _, _ => none
theorem v_is : V2 G (fun x y H Q => y = .non ∧ Q (.bl (decide (x = .non))) H) gIs := fun H x y dx dy d Q hx hy e => by
  cases dy <;> simp only [gIs] at e <;> cases e
  exact ⟨_, rfl, fun q => ⟨hy, by rw [isNon_fz hx]; exact q⟩⟩
theorem v_isnot : V2 G (fun x y H Q => y = .non ∧ Q (.bl (!decide (x = .non))) H) gIsNot := fun H x y dx dy d Q hx hy e => by
  cases dy <;> simp only [gIsNot] at e <;> cases e
  exact ⟨_, rfl, fun q => ⟨hy, by rw [isNon_fz hx]; exact q⟩⟩
/-! in -/
def flatD : D → Bool
  | .non => true
  | .bl _ => true
  | .int _ => true
  | .str _ => true
  | _ => false
def eqF : D → D → Bool
  | .non, .non => true
  | .bl a, .bl b => a == b
  | .bl a, .int b => (if a then 1 else 0) == b
  | .int a, .bl b => a == (if b then 1 else 0)
  | .int a, .int b => a == b
  | .str a, .str b => a == b
  | _, _ => false
theorem flat_av {d : D} (f : flatD d = true) : ∃ v, av d = some v := by cases d <;> first | exact ⟨_, rfl⟩ | cases f
theorem flat_fz {K : PySem.W.Frag} {CA : Str → Addr} {Z : Hp} {d : D} {v : V} (h : Fz K CA Z d v) (f : flatD d = true) : flatV v = true := by
  obtain ⟨u, e⟩ := flat_av f
  cases av_eq e h
  cases d <;> first | (cases e; rfl) | cases f
theorem eqF_fz {K : PySem.W.Frag} {CA : Str → Addr} {Z : Hp} {d e : D} {v u : V} (h : Fz K CA Z d v) (h' : Fz K CA Z e u) (f : flatD d = true) (f' : flatD e = true) : eqV v u = eqF d e := by
  obtain ⟨x, ex⟩ := flat_av f
  obtain ⟨y, ey⟩ := flat_av f'
  cases av_eq ex h
  cases av_eq ey h'
  clear h h'
  cases d <;> first | (cases f; done) | skip
  all_goals (cases ex; cases e <;> first | (cases ey; rfl) | (cases f'; done))
theorem flats_fz {K : PySem.W.Frag} {CA : Str → Addr} {Z : Hp} : ∀ {ds : List D} {vs : List V}, FzA K CA Z ds vs → ds.all flatD = true → vs.all flatV = true
  | [], _, h, _ => by cases (show _ = _ from h); rfl
  | d :: ds, _, h, f => by
    obtain ⟨v, r, rfl, h1, h2⟩ := h
    rw [List.all_cons] at f ⊢
    obtain ⟨f1, f2⟩ := Bool.and_eq_true_iff.mp f
    rw [flat_fz h1 f1, flats_fz h2 f2]
    rfl
theorem in_fz {K : PySem.W.Frag} {CA : Str → Addr} {Z : Hp} {d : D} {v : V} (h : Fz K CA Z d v) (f : flatD d = true) : ∀ {ds : List D} {vs : List V}, FzA K CA Z ds vs → ds.all flatD = true → inV v vs = ds.any fun y => eqF y d
  | [], _, q, _ => by cases (show _ = _ from q); rfl
  | e :: ds, _, q, g => by
    obtain ⟨u, r, rfl, h1, h2⟩ := q
    rw [List.all_cons] at g
    obtain ⟨f1, f2⟩ := Bool.and_eq_true_iff.mp g
    have := in_fz h f h2 f2
    unfold inV at this ⊢
    rw [List.any_cons, List.any_cons, this, eqF_fz h1 h f1 f]
def inD : D → D → Option Bool
  | x, .lst ds => if flatD x = true ∧ ds.all flatD = true then some (ds.any fun y => eqF y x) else none
  | x, .tup ds => if flatD x = true ∧ ds.all flatD = true then some (ds.any fun y => eqF y x) else none
  | x, .dct ks => (keyOf x).map fun c => (valD ks c).isSome
  | x, .dtt ks => (keysOf x).map fun c => (valD ks c).isSome
  | .str z, .str y => if z.length = 1 then some (decide (z.cps.getD 0 0 ∈ y.cps.toList)) else none
  | _, _ => none
def rInV (K : PySem.W.Frag) (n : Bool) : R2 := fun x y H Q => rIn K n x y H Q ∨ (∃ a o, y = .ref a ∧ DGet H a x o ∧ Q (.bl (if n then !o.isSome else o.isSome)) H) ∨
  ∃ (c : Nat) (z : Str), x = .str ⟨#[c]⟩ ∧ y = .str z ∧ Q (.bl (if n then !decide (c ∈ z.cps.toList) else decide (c ∈ z.cps.toList))) H
theorem op_inDict (hu : X.A.units + 1 < cLine) : OpR X (compareOp .In) (fun x y H Q => ∃ a o, y = .ref a ∧ DGet H a x o ∧ Q (.bl o.isSome) H) := by
  intro pins s σ H x y v u Q I rx ry h
  obtain ⟨a, o, rfl, g, q⟩ := h
  cases (show u = Value.ref a from ry)
  exact d_in hu I g rx fun s3 I3 => ⟨.bl o.isSome, H, I3, rfl, q⟩
theorem op_notInDict (hu : X.A.units + 1 < cLine) : OpR X (compareOp .NotIn) (fun x y H Q => ∃ a o, y = .ref a ∧ DGet H a x o ∧ Q (.bl (!o.isSome)) H) := by
  intro pins s σ H x y v u Q I rx ry h
  obtain ⟨a, o, rfl, g, q⟩ := h
  cases (show u = Value.ref a from ry)
  exact d_notIn hu I g rx fun s3 I3 => ⟨.bl (!o.isSome), H, I3, rfl, q⟩
theorem op_inV (hu : X.A.units + 1 < cLine) : OpR X (compareOp .In) (rInV X.K false) := op_in_seq.or ((op_inDict hu).or op_in_sign)
theorem op_notInV (hu : X.A.units + 1 < cLine) : OpR X (compareOp .NotIn) (rInV X.K true) := op_notIn_seq.or ((op_notInDict hu).or op_notIn_sign)
def gIn (d e : D) : Option D := (inD d e).map .bl
def gNotIn (d e : D) : Option D := (inD d e).map fun b => .bl !b
theorem inV_of {n : Bool} {H : Hp} {x y : V} {dx dy : D} {b : Bool} {Q : VK} (hx : Fz G.K G.CA (unl H) dx x) (hy : Fz G.K G.CA (unl H) dy y) (hb : inD dx dy = some b) (q : Q (.bl (if n then !b else b)) H) : rInV G.K n x y H Q := by
  cases dy with
  | lst ds =>
    simp only [inD] at hb
    split at hb
    · rename_i f
      cases hb
      obtain ⟨a, xs, rfl, h1, _, h2⟩ := hy
      refine .inl ⟨a, xs, rfl, .inl (.inl (.inl (unl_lst h1))), flat_fz hx f.1, flats_fz h2 f.2, ?_⟩
      rw [in_fz hx f.1 h2 f.2]
      exact q
    · cases hb
  | tup ds =>
    simp only [inD] at hb
    split at hb
    · rename_i f
      cases hb
      obtain ⟨a, xs, rfl, h1, _, h2⟩ := hy
      refine .inl ⟨a, xs, rfl, .inr (.inl (.inl (unl_tup h1))), flat_fz hx f.1, flats_fz h2 f.2, ?_⟩
      rw [in_fz hx f.1 h2 f.2]
      exact q
    · cases hb
  | dct ks =>
    simp only [inD] at hb
    obtain ⟨c, hc, rfl⟩ := Option.map_eq_some_iff.mp hb
    obtain ⟨a, xs, rfl, h1, _, h2⟩ := hy
    refine .inr (.inl ⟨a, valV xs c, rfl, .inl ⟨xs, c, unl_dK h1, keyOf_fz hc hx, rfl⟩, ?_⟩)
    have : (valV xs c).isSome = (valD ks c).isSome := by
      cases e : valD ks c with
      | none => rw [← valD_V, valD_none h2.e.keys e]; rfl
      | some d =>
        obtain ⟨j, e1, e2⟩ := valD_at e
        obtain ⟨u, e3, _⟩ := h2.e.at e1
        rw [← valD_V, e2 V xs u h2.e.keys e3]
        rfl
    rw [this]
    exact q
  | dtt ks =>
    simp only [inD] at hb
    obtain ⟨c, hc, rfl⟩ := Option.map_eq_some_iff.mp hb
    obtain ⟨a, xs, rfl, h1, _, h2⟩ := hy
    obtain ⟨b, rfl, hb⟩ := keysOf_fz hc hx
    refine .inr (.inl ⟨a, valV xs c, rfl, .inr ⟨xs, c, b, unl_dT h1, rfl, unl_tup hb, rfl⟩, ?_⟩)
    have : (valV xs c).isSome = (valD ks c).isSome := by
      cases e : valD ks c with
      | none => rw [← valD_V, valD_none h2.e.keys e]; rfl
      | some d =>
        obtain ⟨j, e1, e2⟩ := valD_at e
        obtain ⟨u, e3, _⟩ := h2.e.at e1
        rw [← valD_V, e2 V xs u h2.e.keys e3]
        rfl
    rw [this]
    exact q
  | str y' =>
    cases dx with
    | str z =>
      simp only [inD] at hb
      split at hb
      · rename_i hl
        cases hb
        obtain ⟨⟨l⟩⟩ := z
        match l, hl with
        | [c], _ => exact .inr (.inr ⟨c, y', hx, hy, q⟩)
        | [], hl => exact absurd hl (by decide)
        | _ :: _ :: r, hl => exact absurd hl (by simp [Str.length])
      · cases hb
    | _ => simp only [inD] at hb; cases hb
  | _ => simp only [inD] at hb; cases hb
theorem v_in : V2 G (rInV G.K false) gIn := fun H x y dx dy d Q hx hy e => by
  obtain ⟨b, hb, rfl⟩ := Option.map_eq_some_iff.mp e
  exact ⟨_, rfl, fun q => inV_of (n := false) hx hy hb q⟩
theorem v_notIn : V2 G (rInV G.K true) gNotIn := fun H x y dx dy d Q hx hy e => by
  obtain ⟨b, hb, rfl⟩ := Option.map_eq_some_iff.mp e
  exact ⟨_, rfl, fun q => inV_of (n := true) hx hy hb q⟩
end
end PD
namespace PD
open PySem PySem.Spec PyProof.Rows L2 GF
/-! ### statements -/
inductive Fl where
  | nx (e : Ev)
  | rt (d : D) (e : Ev)
  | bk (e : Ev)
  | ct (e : Ev)
  | ex (x : Exc) (e : Ev)
abbrev DS := Ev → Option Fl
/-- how a def hands back: the answer's levels; the parameters that it changes, with their levels; the levels at a loop's head -/
structure Rt where
  k : Nat
  io : List (Nat × Nat)
  mb : List Nat
def FinS (G : Gc) (ms' lk : List Nat) (E : List Nat) (R : Rt) (XE : XK) (w : Wd) (Dn : Ends) : Fl → Prop
  | .nx env' => ∀ w' σ', Rel G ms' lk w' env' σ' → Ext E w w' → Dn.nx σ' w'.H
  | .rt d env' => ∀ w' σ' v L msr lkr env'', Rel G msr lkr w' env'' σ' → (∀ p ∈ R.io, md msr p.1 = p.2 ∧ p.1 ∉ lkr ∧ env''[p.1]? = env'[p.1]?) → Ext E w w' → ValR G w' d v L (.own R.k) → New E w [] L → Dn.rt v w'.H
  | .bk env' => ∀ w' σ', Rel G R.mb lk w' env' σ' → Ext E w w' → Dn.bk σ' w'.H
  | .ct env' => ∀ w' σ', Rel G R.mb lk w' env' σ' → Ext E w w' → Dn.ct σ' w'.H
  | .ex x env' => ∀ w' p σ', Rel G ms' lk w' env' σ' ∨ True → Ext E w w' → Pay G w' x p → XE (.ref (G.CA x.c)) p w'.H
def tS (G : Gc) (ms lk ms' : List Nat) (E : List Nat) (R : Rt) (XE : XK) (c : DS) : TS := fun Dn σ H => ∃ w env o, w.H = H ∧ Rel G ms lk w env σ ∧ c env = some o ∧ FinS G ms' lk E R XE w Dn o
section
variable {X : Cx} {G : Gc} {ms lk ms' ms1 ms2 : List Nat} {k ka kb : Kd} {ks : List Kd} {E E1 E2 Ea Eb : List Nat} {R : Rt} {XE : XK} {pos p : Pos} {a b e : Expr} {es : List Expr} {ca cb : DE} {cs : DA} {c c1 c2 : DS} {st : Stmt} {rest : List Stmt} {Dn : Ends}
theorem FinS.step {w w1 : Wd} : ∀ {o : Fl}, FinS G ms' lk E R XE w Dn o → Ext E w w1 → FinS G ms' lk E R XE w1 Dn o
  | .nx _, h, x => fun w' σ' R y => h w' σ' R (x.trans y)
  | .rt _ _, h, x => fun w' σ' v L msr lkr e'' R i y V n => h w' σ' v L msr lkr e'' R i (x.trans y) V (n.back x)
  | .bk _, h, x => fun w' σ' R y => h w' σ' R (x.trans y)
  | .ct _, h, x => fun w' σ' R y => h w' σ' R (x.trans y)
  | .ex _ _, h, x => fun w' p σ' R y P => h w' p σ' R (x.trans y) P
theorem FinS.mono {w : Wd} (hE : ∀ j ∈ Ea, j ∈ E) : ∀ {o : Fl}, FinS G ms' lk E R XE w Dn o → FinS G ms' lk Ea R XE w Dn o
  | .nx _, h => fun w' σ' R y => h w' σ' R (y.mono hE)
  | .rt _ _, h => fun w' σ' v L msr lkr e'' R i y V n => h w' σ' v L msr lkr e'' R i (y.mono hE) V (n.mono hE fun _ z => z)
  | .bk _, h => fun w' σ' R y => h w' σ' R (y.mono hE)
  | .ct _, h => fun w' σ' R y => h w' σ' R (y.mono hE)
  | .ex _ _, h => fun w' p σ' R y P => h w' p σ' R (y.mono hE) P
def skip : DS := fun e => some (.nx e)
def seq (c1 c2 : DS) : DS := fun e => match c1 e with
  | some (.nx e1) => c2 e1
  | o => o
theorem ss_nil : PSs X [] (tS G ms lk ms [] R XE skip) := PSs.weak pss_nil fun Dn σ H ⟨w, env, o, hH, Rl, ho, F⟩ => by
  cases ho
  rw [← hH]
  exact F w σ Rl .refl
theorem tSeq_of (h : tS G ms lk ms2 (E1 ++ E2) R XE (seq c1 c2) Dn σ H) : tSeq (tS G ms lk ms1 E1 R XE c1) (tS G ms1 lk ms2 E2 R XE c2) Dn σ H := by
  obtain ⟨w, env, o, hH, Rl, ho, F⟩ := h
  have l1 : ∀ j ∈ E1, j ∈ E1 ++ E2 := fun j hj => List.mem_append_left _ hj
  unfold seq at ho
  cases e : c1 env with
  | none => rw [e] at ho; cases ho
  | some o1 =>
    rw [e] at ho
    refine ⟨w, env, o1, hH, Rl, e, ?_⟩
    cases o1 with
    | nx e1 => exact fun w' σ' R' x => ⟨w', e1, o, rfl, R', ho, (F.step (x.mono l1)).mono fun j hj => List.mem_append_right _ hj⟩
    | rt d e1 => cases ho; exact fun w' σ' v L msr lkr e'' R' i x V n => F w' σ' v L msr lkr e'' R' i (x.mono l1) V (n.mono l1 fun _ z => z)
    | bk e1 => cases ho; exact fun w' σ' R' x => F w' σ' R' (x.mono l1)
    | ct e1 => cases ho; exact fun w' σ' R' x => F w' σ' R' (x.mono l1)
    | ex y e1 => cases ho; exact fun w' p σ' _ x P => F w' p σ' (.inr trivial) (x.mono l1) P
theorem ss_cons (h1 : PS X st (tS G ms lk ms1 E1 R XE c1)) (h2 : PSs X rest (tS G ms1 lk ms2 E2 R XE c2)) : PSs X (st :: rest) (tS G ms lk ms2 (E1 ++ E2) R XE (seq c1 c2)) := PSs.weak (pss_cons h1 h2) fun _ _ _ h => tSeq_of h
theorem ss_one (h1 : PS X st (tS G ms lk ms1 E1 R XE c1)) : PSs X [st] (tS G ms lk ms1 E1 R XE c1) := pss_one h1
/-- more may be written -/
theorem ss_eff (hE : ∀ j ∈ Ea, j ∈ E) (h : PSs X rest (tS G ms lk ms' Ea R XE c)) : PSs X rest (tS G ms lk ms' E R XE c) := PSs.weak h fun _ _ _ ⟨w, env, o, hH, Rl, ho, F⟩ => ⟨w, env, o, hH, Rl, ho, F.mono hE⟩
theorem ss_pass : PS X (.Pass pos) (tS G ms lk ms [] R XE skip) := PS.weak ps_pass fun Dn σ H ⟨w, env, o, hH, Rl, ho, F⟩ => by
  cases ho
  rw [← hH]
  exact F w σ Rl .refl
theorem ss_break (hm : R.mb = ms) : PS X (.Break pos) (tS G ms lk ms' [] R XE fun e => some (.bk e)) := PS.weak ps_break fun Dn σ H ⟨w, env, o, hH, Rl, ho, F⟩ => by
  cases ho
  rw [← hH]
  exact F w σ (by rw [hm]; exact Rl) .refl
theorem ss_continue (hm : R.mb = ms) : PS X (.Continue pos) (tS G ms lk ms' [] R XE fun e => some (.ct e)) := PS.weak ps_continue fun Dn σ H ⟨w, env, o, hH, Rl, ho, F⟩ => by
  cases ho
  rw [← hH]
  exact F w σ (by rw [hm]; exact Rl) .refl
/-- an expression ahead of what follows it in a statement -/
def bndS {α : Type} (c : Ev → Option (Out α)) (f : α → DS) : DS := fun e => match c e with
  | some (.ok a e1) => f a e1
  | some (.ex x e1) => some (.ex x e1)
  | none => none
theorem tD.bindS {w : Wd} {env : Ev} {σ : L2.St} {P : VK} {f : D → DS} {o : Fl} (Rl : Rel G ms lk w env σ) (ho : bndS ca f env = some o) (F : FinS G ms' lk E R XE w Dn o) (hE : ∀ j ∈ E1, j ∈ E)
    (hp : ∀ w1 env1 d v L, Rel G ms lk w1 env1 σ → Ext E w w1 → ValR G w1 d v L k → New E w k.bs L → f d env1 = some o → FinS G ms' lk E R XE w1 Dn o → P v w1.H) : tD G ms lk k E1 XE ca σ w.H P := by
  unfold bndS at ho
  split at ho
  · rename_i d e1 he
    exact ⟨w, env, .ok d e1, rfl, Rl, he, fun w' v L R' x V n => hp w' e1 d v L R' (x.mono hE) V (n.mono hE fun _ z => z) ho (F.step (x.mono hE))⟩
  · rename_i x e1 he
    cases ho
    exact ⟨w, env, .ex x e1, rfl, Rl, he, fun w' p R' x P => F w' p σ (.inr trivial) (x.mono hE) P⟩
  · cases ho
theorem tT.bindS {w : Wd} {env : Ev} {σ : L2.St} {P : Bool → Hp → Prop} {t : DB} {f : Bool → DS} {o : Fl} (Rl : Rel G ms lk w env σ) (ho : bndS t f env = some o) (F : FinS G ms' lk E R XE w Dn o) (hE : ∀ j ∈ E1, j ∈ E)
    (hp : ∀ w1 env1 b, Rel G ms lk w1 env1 σ → Ext E w w1 → f b env1 = some o → FinS G ms' lk E R XE w1 Dn o → P b w1.H) : tT G ms lk E1 XE t σ w.H P := by
  unfold bndS at ho
  split at ho
  · rename_i d e1 he
    exact ⟨w, env, .ok d e1, rfl, Rl, he, fun w' R' x => hp w' e1 d R' (x.mono hE) ho (F.step (x.mono hE))⟩
  · rename_i x e1 he
    cases ho
    exact ⟨w, env, .ex x e1, rfl, Rl, he, fun w' p R' x P => F w' p σ (.inr trivial) (x.mono hE) P⟩
  · cases ho
def sExpr (a : DE) : DS := bndS a fun _ => skip
theorem ss_expr (ha : PE X a (tD G ms lk k E XE ca)) (hs : swapsWith a none pos.line X.env = pure false := by rfl) : PS X (.Expr a pos) (tS G ms lk ms E R XE (sExpr ca)) := PS.weak (ps_expr ha hs) fun Dn σ H ⟨w, env, o, hH, Rl, ho, F⟩ => by
  rw [← hH]
  refine tD.bindS Rl ho F (fun _ z => z) fun w1 env1 d v L R1 x1 V1 n1 ho1 F1 => ?_
  cases ho1
  exact F1 w1 σ R1 .refl
/-- the text at a def's head -/
theorem ss_doc {x j pos'} : PS X (.Expr (.Constant (.str x) j pos) pos') (tS G ms lk ms [] R XE skip) := PS.weak ps_doc fun Dn σ H ⟨w, env, o, hH, Rl, ho, F⟩ => by
  cases ho
  rw [← hH]
  exact F w σ Rl .refl
def sIf (t : DB) (c1 c2 : DS) : DS := bndS t fun b => cond b c1 c2
theorem ss_if {t : DB} {s1 s2 : List Stmt} (hc : PT X e (tT G ms lk Ea XE t)) (h1 : PSs X s1 (tS G ms lk ms' E1 R XE c1)) (h2 : PSs X s2 (tS G ms lk ms' E2 R XE c2)) : PS X (.If e s1 s2 pos) (tS G ms lk ms' (Ea ++ E1 ++ E2) R XE (sIf t c1 c2)) := PS.weak (ps_if hc h1 h2) fun Dn σ H ⟨w, env, o, hH, Rl, ho, F⟩ => by
  rw [← hH]
  refine tT.bindS Rl ho F (fun j hj => by simp [hj]) fun w1 env1 b R1 x1 ho1 F1 => ?_
  cases b with
  | true => exact ⟨w1, env1, o, rfl, R1, ho1, F1.mono fun j hj => by simp [hj]⟩
  | false => exact ⟨w1, env1, o, rfl, R1, ho1, F1.mono fun j hj => by simp [hj]⟩
def sRet (a : DE) : DS := bndS a fun d e => some (.rt d e)
theorem ss_ret (ha : PE X a (tD G ms lk (.own R.k) E XE ca)) (hio : ∀ p ∈ R.io, md ms p.1 = p.2 ∧ p.1 ∉ lk := by decide) : PS X (.Return (some a) pos) (tS G ms lk ms' E R XE (sRet ca)) := PS.weak (ps_ret ha) fun Dn σ H ⟨w, env, o, hH, Rl, ho, F⟩ => by
  rw [← hH]
  refine tD.bindS Rl ho F (fun _ z => z) fun w1 env1 d v L R1 x1 V1 n1 ho1 F1 => ?_
  cases ho1
  exact F w1 σ v L ms lk env1 R1 (fun p hp => ⟨(hio p hp).1, (hio p hp).2, rfl⟩) x1 V1 n1
/-- a slot is given up -/
theorem Rel.drop {w : Wd} {env : Ev} {σ : L2.St} (Rl : Rel G ms lk w env σ) (i : Nat) : Rel G ms lk ⟨w.Z, w.H, fun j => if j = i then [] else w.Ls j⟩ (env.set i none) σ := by
  refine ⟨Rl.sub, by rw [List.length_set]; exact Rl.len, fun j d hd => ?_, fun j hj => ?_, fun j => ?_, fun j l n a ha => ?_, fun j a ha => ?_, fun j hj a ha => ?_, Rl.pin, Rl.tz⟩
  · by_cases e : i = j
    · subst e
      rw [List.getElem?_set] at hd
      split at hd <;> first | cases hd | (split at hd <;> cases hd) | skip
      · rename_i h; exact absurd rfl h
    · rw [List.getElem?_set_ne e] at hd
      show ∃ v, _ ∧ Ow _ _ _ _ _ _ _ (if j = i then [] else w.Ls j)
      rw [if_neg (Ne.symm e)]
      exact Rl.slot j d hd
  · show (if j = i then [] else w.Ls j) = []
    by_cases e : j = i
    · rw [if_pos e]
    · rw [if_neg e]
      exact Rl.emp j fun d z => hj d (by rw [List.getElem?_set_ne (Ne.symm e)]; exact z)
  · show (if j = i then [] else w.Ls j).Nodup
    split
    · exact List.nodup_nil
    · exact Rl.nd j
  · have ha : a ∈ (if j = i then [] else w.Ls j) := ha
    show a ∉ (if l = i then [] else w.Ls l)
    split at ha
    · cases ha
    · split
      · simp
      · exact Rl.dj j l n a ha
  · have ha : a ∈ (if j = i then [] else w.Ls j) := ha
    split at ha
    · cases ha
    · exact Rl.zn j a ha
  · have ha : a ∈ (if j = i then [] else w.Ls j) := ha
    split at ha
    · cases ha
    · exact Rl.nl j hj a ha
/-- a local name's own value is handed back -/
theorem ss_retB {i : Nat} (ha : PE X a (tVar i)) (hm : md ms i = R.k) (hl : i ∉ lk := by decide) (hio : ∀ p ∈ R.io, md ms p.1 = p.2 ∧ p.1 ∉ lk ∧ p.1 ≠ i := by decide) : PS X (.Return (some a) pos) (tS G ms lk ms' [i] R XE (sRet (dV i))) := PS.weak (ps_ret ha) fun Dn σ H ⟨w, env, o, hH, Rl, ho, F⟩ => by
  rw [← hH]
  have hd : ∃ d, env[i]? = some (some d) ∧ o = .rt d env := by
    unfold sRet bndS dV at ho
    cases e : env[i]? with
    | none => rw [e] at ho; cases ho
    | some x =>
      cases x with
      | none => rw [e] at ho; cases ho
      | some d => rw [e] at ho; cases ho; exact ⟨d, rfl, rfl⟩
  obtain ⟨d, hd, rfl⟩ := hd
  obtain ⟨v, hv, q⟩ := Rl.slot i d hd
  refine ⟨v, hv, ?_⟩
  have x0 : Ext [i] w ⟨w.Z, w.H, fun j => if j = i then [] else w.Ls j⟩ := ⟨fun _ _ z => z, fun _ _ z _ => .inl z, fun _ z1 z2 => absurd z2 z1, fun j hj => if_neg (by simpa using hj), fun j hj a ha => (by
    have e : j = i := by simpa using hj
    subst e
    have ha : a ∈ (if j = j then [] else w.Ls j) := ha
    rw [if_pos rfl] at ha
    cases ha), fun _ z => z⟩
  rw [hm] at q
  refine F ⟨w.Z, w.H, fun j => if j = i then [] else w.Ls j⟩ σ v (w.Ls i) ms lk (env.set i none) (Rl.drop i) (fun p hp => ⟨(hio p hp).1, (hio p hp).2.1, List.getElem?_set_ne (Ne.symm (hio p hp).2.2)⟩) x0 ⟨q, Rl.nd i, fun a ha => ⟨Rl.zn i a ha, fun j => ?_, Rl.nl i hl a ha⟩⟩ fun a ha hn => ⟨i, .inl (by simp), ha⟩
  show a ∉ (if j = i then [] else w.Ls j)
  split
  · simp
  · rename_i hj; exact Rl.dj i j (Ne.symm hj) a ha
end
end PD
namespace PD
open PySem PySem.Spec PyProof.Rows L2 GF
/-! ### stores to names, loops -/
section
variable {X : Cx} {G : Gc} {ms lk ms' ms1 ms2 : List Nat} {k ka kb : Kd} {ks : List Kd} {E E1 E2 Ea Eb : List Nat} {R : Rt} {XE : XK} {pos p : Pos} {a b e : Expr} {es : List Expr} {ca cb : DE} {cs : DA} {c c1 c2 : DS} {st : Stmt} {rest : List Stmt} {Dn : Ends}
theorem md_set {ms : List Nat} {i j m : Nat} (h : i < ms.length) : md (ms.set i m) j = if j = i then m else md ms j := by
  unfold md
  rw [List.getD_eq_getElem?_getD, List.getElem?_set, List.getD_eq_getElem?_getD]
  by_cases e : i = j
  · subst e; rw [if_pos rfl, if_pos h, if_pos rfl]; rfl
  · rw [if_neg e, if_neg (Ne.symm e)]
/-- slot i gets a value -/
theorem Rel.put {w : Wd} {env : Ev} {σ : L2.St} (Rl : Rel G ms lk w env σ) {i m : Nat} {d : D} {v : V} {L : List Addr} (V : ValR G w d v L (.own m)) (hi : i < ms.length) (hp : i ∉ G.pins) :
    Rel G (ms.set i m) lk ⟨w.Z, w.H, fun j => if j = i then (if i < env.length then L else []) else w.Ls j⟩ (env.set i (some d)) (σ.set i (some v)) := by
  obtain ⟨V1, V2, V3⟩ := V
  refine ⟨Rl.sub, by rw [List.length_set, List.length_set]; exact Rl.len, fun j d' hd => ?_, fun j hj => ?_, fun j => ?_, fun j l n a ha => ?_, fun j a ha => ?_, fun j hj a ha => ?_, fun j hj => ?_, Rl.tz⟩
  · rw [md_set hi]
    show ∃ v', _ ∧ Ow _ _ _ _ _ _ _ (if j = i then (if i < env.length then L else []) else w.Ls j)
    by_cases e : i = j
    · subst e
      rw [List.getElem?_set] at hd
      rw [if_pos rfl] at hd
      split at hd
      · rename_i hl
        cases hd
        refine ⟨v, ?_, ?_⟩
        · rw [List.getElem?_set, if_pos rfl, if_pos (by rw [← Rl.len]; exact hl)]
        · rw [if_pos rfl, if_pos rfl, if_pos hl]; exact V1
      · cases hd
    · rw [List.getElem?_set_ne e] at hd
      rw [List.getElem?_set_ne e, if_neg (Ne.symm e), if_neg (Ne.symm e)]
      exact Rl.slot j d' hd
  · show (if j = i then (if i < env.length then L else []) else w.Ls j) = []
    by_cases e : j = i
    · subst e
      rw [if_pos rfl]
      split
      · rename_i hl
        exact absurd (by rw [List.getElem?_set, if_pos rfl, if_pos hl]) (hj d)
      · rfl
    · rw [if_neg e]
      exact Rl.emp j fun d z => hj d (by rw [List.getElem?_set_ne (Ne.symm e)]; exact z)
  · show (if j = i then (if i < env.length then L else []) else w.Ls j).Nodup
    split
    · split
      · exact V2
      · exact List.nodup_nil
    · exact Rl.nd j
  · have ha : a ∈ (if j = i then (if i < env.length then L else []) else w.Ls j) := ha
    show a ∉ (if l = i then (if i < env.length then L else []) else w.Ls l)
    split at ha
    · split at ha
      · rw [if_neg (by rename_i e _; rw [← e]; exact Ne.symm n)]
        exact (V3 a ha).2.1 l
      · cases ha
    · split
      · split
        · exact fun z => (V3 a z).2.1 j ha
        · simp
      · exact Rl.dj j l n a ha
  · have ha : a ∈ (if j = i then (if i < env.length then L else []) else w.Ls j) := ha
    split at ha
    · split at ha
      · exact (V3 a ha).1
      · cases ha
    · exact Rl.zn j a ha
  · have ha : a ∈ (if j = i then (if i < env.length then L else []) else w.Ls j) := ha
    split at ha
    · split at ha
      · exact (V3 a ha).2.2
      · cases ha
    · exact Rl.nl j hj a ha
  · rw [List.getElem?_set_ne fun z => hp (by rw [z]; exact hj)]
    exact Rl.pin j hj
theorem Ext.put {w : Wd} {L : List Addr} {i : Nat} (nw : ∀ a ∈ L, w.H a ≠ none → ∃ j ∈ E, a ∈ w.Ls j) (hi : i ∈ E) : Ext E w ⟨w.Z, w.H, fun j => if j = i then L else w.Ls j⟩ :=
  ⟨fun _ _ z => z, fun _ _ z _ => .inl z, fun _ z1 z2 => absurd z2 z1, fun j hj => if_neg fun z => hj (by rw [z]; exact hi), fun j hj a ha hn => (by
    have ha : a ∈ (if j = i then L else w.Ls j) := ha
    split at ha
    · exact nw a ha hn
    · exact ⟨j, hj, ha⟩), fun _ z => z⟩
def sSet (i : Nat) (a : DE) : DS := bndS a fun d e => some (.nx (e.set i (some d)))
/-- the state behind a store, from the state ahead of the statement -/
theorem put_of {w w1 : Wd} {env1 : Ev} {σ : L2.St} {i m : Nat} {d : D} {v : V} {L : List Addr} {P : Wd → Prop} (R1 : Rel G ms lk w1 env1 σ) (x1 : Ext E w w1) (V1 : ValR G w1 d v L (.own m)) (n1 : New E w [] L) (hE : i ∈ E) (hi : i < ms.length) (hp : i ∉ G.pins)
    (q : ∀ w', Rel G (ms.set i m) lk w' (env1.set i (some d)) (σ.set i (some v)) → Ext E w w' → w'.H = w1.H → P w') : ∃ w', P w' := by
  refine ⟨_, q _ (R1.put V1 hi hp) ⟨x1.zz, x1.hh, x1.zn, fun j hj => ?_, fun j hj a ha hn => ?_, x1.al⟩ rfl⟩
  · show (if j = i then (if i < env1.length then L else []) else w1.Ls j) = w.Ls j
    rw [if_neg fun z => hj (by rw [z]; exact hE)]
    exact x1.ll j hj
  · have ha : a ∈ (if j = i then (if i < env1.length then L else []) else w1.Ls j) := ha
    split at ha
    · split at ha
      · obtain ⟨j', hj', q⟩ := n1 a ha hn
        rcases hj' with hj' | hj'
        · exact ⟨j', hj', q⟩
        · cases hj'
      · cases ha
    · exact x1.ln j hj a ha hn
theorem tSet_of {i m : Nat} (hi : i < ms.length) (hp : i ∉ G.pins) {σ : L2.St} {H : Hp} (h : tS G ms lk (ms.set i m) (i :: Ea) R XE (sSet i ca) Dn σ H) : tAsg (tD G ms lk (.own m) Ea XE ca) (gName i) Dn σ H := by
  obtain ⟨w, env, o, hH, Rl, ho, F⟩ := h
  rw [← hH]
  refine tD.bindS (E := i :: Ea) Rl ho F (fun j hj => List.mem_cons_of_mem _ hj) fun w1 env1 d v L R1 x1 V1 n1 ho1 F1 => ?_
  cases ho1
  obtain ⟨w', q⟩ := put_of (P := fun w' => Dn.nx (σ.set i (some v)) w'.H ∧ w'.H = w1.H) R1 x1 V1 n1 List.mem_cons_self hi hp fun w' R' x' e => ⟨F w' _ R' x', e⟩
  show Dn.nx (σ.set i (some v)) w1.H
  rw [← q.2]
  exact q.1
theorem ss_set {i m : Nat} {x : Str} {pos' : Pos} (hN : X.N.Nodup) (hx : X.N[i]? = some x) (hv : Loc X.env.scope x) (ha : PE X a (tD G ms lk (.own m) Ea XE ca)) (hi : i < ms.length := by decide) (hp : i ∉ G.pins := by try dsimp only; decide +kernel)
    (hs : swapsWith a (some (.Name x pos')) pos.line X.env = pure false := by rfl) (hf : X.fn x = true ∨ X.env.scope.names.lookup x = some .local := by first | exact .inl rfl | exact .inr rfl | assumption) :
    PS X (.Assign [.Name x pos'] a pos) (tS G ms lk (ms.set i m) (i :: Ea) R XE (sSet i ca)) := PS.weak (ps_set (i := i) hN hx hv ha hs hf) fun _ _ _ h => tSet_of hi hp h
/-- a slot is frozen -/
theorem Rel.frz {w : Wd} {env : Ev} {σ : L2.St} (Rl : Rel G ms lk w env σ) {i : Nat} (hi : i < ms.length) : Rel G (ms.set i 0) lk ⟨pl w.Z (unl w.H) (w.Ls i), w.H, fun j => if j = i then [] else w.Ls j⟩ env σ := by
  have s : Same w.Z (pl w.Z (unl w.H) (w.Ls i)) := pl_same fun a ha => Rl.zn i a ha
  refine ⟨pl_sub Rl.sub, Rl.len, fun j d hd => ?_, fun j hj => ?_, fun j => ?_, fun j l n a ha => ?_, fun j a ha => ?_, fun j hj a ha => ?_, Rl.pin, fun a xs e => pl_same (fun a ha => Rl.zn i a ha) _ _ (Rl.tz a xs e)⟩
  · obtain ⟨v, hv, q⟩ := Rl.slot j d hd
    refine ⟨v, hv, ?_⟩
    rw [md_set hi]
    show Ow _ _ _ _ _ _ _ (if j = i then [] else w.Ls j)
    by_cases e : j = i
    · subst e
      rw [if_pos rfl, if_pos rfl]
      exact ⟨rfl, q.frz s fun a ha => pl_in ha⟩
    · rw [if_neg e, if_neg e]
      exact q.frame s fun _ _ => rfl
  · show (if j = i then [] else w.Ls j) = []
    split
    · rfl
    · exact Rl.emp j hj
  · show (if j = i then [] else w.Ls j).Nodup
    split
    · exact List.nodup_nil
    · exact Rl.nd j
  · have ha : a ∈ (if j = i then [] else w.Ls j) := ha
    show a ∉ (if l = i then [] else w.Ls l)
    split at ha
    · cases ha
    · split
      · simp
      · exact Rl.dj j l n a ha
  · have ha : a ∈ (if j = i then [] else w.Ls j) := ha
    split at ha
    · cases ha
    · rename_i hj
      show pl w.Z (unl w.H) (w.Ls i) a = none
      unfold pl
      rw [if_neg (Rl.dj j i hj a ha)]
      exact Rl.zn j a ha
  · have ha : a ∈ (if j = i then [] else w.Ls j) := ha
    split at ha
    · cases ha
    · exact Rl.nl j hj a ha
theorem Ext.frz {w : Wd} {i : Nat} (hi : i ∈ E) : Ext E w ⟨pl w.Z (unl w.H) (w.Ls i), w.H, fun j => if j = i then [] else w.Ls j⟩ ∨ (∃ a ∈ w.Ls i, w.Z a ≠ none) := by
  by_cases h : ∀ a ∈ w.Ls i, w.Z a = none
  · refine .inl ⟨pl_same h, fun _ _ z _ => .inl z, fun a z1 z2 _ => ?_, fun j hj => if_neg fun z => hj (by rw [z]; exact hi), fun j hj a ha _ => ?_, fun _ z => z⟩
    · have z1 : pl w.Z (unl w.H) (w.Ls i) a ≠ none := z1
      unfold pl at z1
      by_cases ha : a ∈ w.Ls i
      · exact ⟨i, hi, ha⟩
      · rw [if_neg ha] at z1; exact absurd z2 z1
    · have ha : a ∈ (if j = i then [] else w.Ls j) := ha
      split at ha
      · cases ha
      · exact ⟨j, hj, ha⟩
  · refine .inr ?_
    obtain ⟨a, h⟩ := Classical.not_forall.mp h
    obtain ⟨h1, h2⟩ := Classical.not_imp.mp h
    exact ⟨a, h1, h2⟩
theorem ss_frz (i : Nat) (h : PSs X rest (tS G (ms.set i 0) lk ms' E R XE c)) (hi : i < ms.length := by decide) : PSs X rest (tS G ms lk ms' (i :: E) R XE c) := PSs.weak h fun Dn σ H ⟨w, env, o, hH, Rl, ho, F⟩ => by
  rcases Ext.frz (E := i :: E) (w := w) (i := i) List.mem_cons_self with x | ⟨a, ha, hz⟩
  · exact ⟨⟨pl w.Z (unl w.H) (w.Ls i), w.H, fun j => if j = i then [] else w.Ls j⟩, env, o, hH, Rl.frz hi, ho, (F.step x).mono fun j hj => List.mem_cons_of_mem _ hj⟩
  · exact absurd (Rl.zn i a ha) hz
/-- .. behind a statement -/
theorem ss_frzN (i : Nat) (h : PS X st (tS G ms lk ms1 E R XE c)) (hi : i < ms1.length := by decide) : PS X st (tS G ms lk (ms1.set i 0) (i :: E) R XE c) := PS.weak h fun Dn σ H ⟨w, env, o, hH, Rl, ho, F⟩ => by
  refine ⟨w, env, o, hH, Rl, ho, ?_⟩
  have l : ∀ j ∈ E, j ∈ i :: E := fun j hj => List.mem_cons_of_mem _ hj
  cases o with
  | nx e1 =>
    intro w' σ' R' x
    rcases Ext.frz (E := i :: E) (w := w') (i := i) List.mem_cons_self with y | ⟨a, ha, hz⟩
    · exact F ⟨pl w'.Z (unl w'.H) (w'.Ls i), w'.H, fun j => if j = i then [] else w'.Ls j⟩ σ' (R'.frz hi) ((x.mono l).trans y)
    · exact absurd (R'.zn i a ha) hz
  | rt d e1 => exact fun w' σ' v L msr lkr e'' R' i x V n => F w' σ' v L msr lkr e'' R' i (x.mono l) V (n.mono l fun _ z => z)
  | bk e1 => exact fun w' σ' R' x => F w' σ' R' (x.mono l)
  | ct e1 => exact fun w' σ' R' x => F w' σ' R' (x.mono l)
  | ex y e1 => exact fun w' p σ' _ x P => F w' p σ' (.inr trivial) (x.mono l) P
/-! while -/
/-- at most n turns -/
def whl (t : DB) (c : DS) : Nat → DS
  | 0, _ => none
  | n + 1, e => match t e with
    | none => none
    | some (.ex x e1) => some (.ex x e1)
    | some (.ok false e1) => some (.nx e1)
    | some (.ok true e1) => match c e1 with
      | some (.nx e2) => whl t c n e2
      | some (.ct e2) => whl t c n e2
      | some (.bk e2) => some (.nx e2)
      | o => o
theorem ss_while {t : DB} {body : List Stmt} (n : Nat) (hp : PassesOwn (model X.prog X.w) X.A X.env X.xe) (hc : PT X e (tT G ms lk Ea XE t)) (hb : PSs X body (tS G ms lk ms E1 { R with mb := ms } XE c)) : PS X (.While e body [] pos) (tS G ms lk ms (Ea ++ E1) R XE (whl t c n)) := PS.weak (ps_while hp hc hb) fun Dn σ H ⟨w, env, o, hH, Rl, ho, F⟩ => by
  have l1 : ∀ j ∈ Ea, j ∈ Ea ++ E1 := fun j hj => List.mem_append_left _ hj
  have l2 : ∀ j ∈ E1, j ∈ Ea ++ E1 := fun j hj => List.mem_append_right _ hj
  refine ⟨fun m σ' H' => ∃ w' env', w'.H = H' ∧ Rel G ms lk w' env' σ' ∧ whl t c m env' = some o ∧ Ext (Ea ++ E1) w w', ⟨n, w, env, hH, Rl, ho, .refl⟩, ?_⟩
  rintro m σ1 H1 ⟨w1, env1, rfl, R1, ho1, x1⟩
  cases m with
  | zero => cases ho1
  | succ m =>
    unfold whl at ho1
    cases et : t env1 with
    | none => rw [et] at ho1; cases ho1
    | some o1 =>
      rw [et] at ho1
      refine ⟨w1, env1, o1, rfl, R1, et, ?_⟩
      cases o1 with
      | ex x e1 => cases ho1; exact fun w' p R' x' P => F w' p σ1 (.inr trivial) (x1.trans (x'.mono l1)) P
      | ok b e1 =>
        intro w2 R2 x2
        cases b with
        | false =>
          cases ho1
          rw [if_neg Bool.false_ne_true]
          exact F w2 σ1 R2 (x1.trans (x2.mono l1))
        | true =>
          rw [if_pos rfl]
          refine ⟨fun σ' H' => ∃ w' env', w'.H = H' ∧ Rel G ms lk w' env' σ' ∧ whl t c m env' = some o ∧ Ext (Ea ++ E1) w w', fun σ' H' q => ⟨m, Nat.lt_succ_self m, q⟩, ?_⟩
          dsimp only at ho1
          cases ec : c e1 with
          | none => rw [ec] at ho1; cases ho1
          | some o2 =>
            rw [ec] at ho1
            refine ⟨w2, e1, o2, rfl, R2, ec, ?_⟩
            have x12 := x1.trans (x2.mono l1)
            cases o2 with
            | nx e2 => exact fun w' σ' R' x => ⟨w', e2, rfl, R', ho1, x12.trans (x.mono l2)⟩
            | ct e2 => exact fun w' σ' R' x => ⟨w', e2, rfl, R', ho1, x12.trans (x.mono l2)⟩
            | bk e2 => cases ho1; exact fun w' σ' R' x => F w' σ' R' (x12.trans (x.mono l2))
            | rt d e2 => cases ho1; exact fun w' σ' v L msr lkr e'' R' i x V n => F w' σ' v L msr lkr e'' R' i (x12.trans (x.mono l2)) V ((n.mono l2 fun _ z => z).back x12)
            | ex y e2 => cases ho1; exact fun w' p σ' _ x P => F w' p σ' (.inr trivial) (x12.trans (x.mono l2)) P
end
end PD
namespace PD
open PySem PySem.Spec PyProof.Rows L2 GF
/-! ### unlocking -/
/-- what was not locked at the start is unlocked -/
def unlA (H0 H : Hp) : Hp := fun a => match H a, H0 a with
  | some (.frz o u), some (.frz _ _) => some (.frz o u)
  | some (.frz o u), _ => if isDk u = true then some u else some (.frz o u)
  | o, _ => o
theorem unlA_at {H0 H : Hp} {a : Addr} : unlA H0 H a = H a ∨ ∃ od u, H a = some (.frz od u) ∧ isDk u = true ∧ unlA H0 H a = some u ∧ ∀ o' u', H0 a ≠ some (.frz o' u') := by
  unfold unlA
  split
  · rename_i e _; rw [e]; exact .inl rfl
  · rename_i od u e n
    by_cases h : isDk u = true
    · rw [if_pos h, e]
      exact .inr ⟨od, u, rfl, h, rfl, fun o' u' z => n _ _ z⟩
    · rw [if_neg h, e]; exact .inl rfl
  · exact .inl rfl
theorem unlA_unl {H0 H : Hp} : unl (unlA H0 H) = unl H := by
  funext a
  rcases @unlA_at H0 H a with e | ⟨od, u, e1, e2, e3, _⟩
  · unfold unl; rw [e]
  · unfold unl; rw [e1, e3]
    cases u <;> first | rfl | cases e2
theorem unlA_same {H0 H : Hp} {a : Addr} (h : unl H a = H a) : unlA H0 H a = H a := by
  rcases @unlA_at H0 H a with e | ⟨od, u, e1, e2, e3, _⟩
  · exact e
  · unfold unl at h
    rw [e1] at h
    cases u <;> first | (cases e2; done) | (cases h; done)
theorem unlA_none {H0 H : Hp} {a : Addr} : unlA H0 H a = none ↔ H a = none := by
  rcases @unlA_at H0 H a with e | ⟨od, u, e1, e2, e3, _⟩
  · rw [e]
  · rw [e1, e3]; simp
theorem Rel.unlA {G : Gc} {ms lk : List Nat} {w : Wd} {env : Ev} {σ : L2.St} {H0 : Hp} (R : Rel G ms lk w env σ) : Rel G ms lk ⟨w.Z, PD.unlA H0 w.H, w.Ls⟩ env σ :=
  ⟨by show Same w.Z (unl (PD.unlA H0 w.H)); rw [unlA_unl]; exact R.sub, R.len, fun i d h => (by
    show ∃ v, σ[i]? = some (some v) ∧ Ow G.K G.CA w.Z (unl (PD.unlA H0 w.H)) (md ms i) d v (w.Ls i)
    rw [unlA_unl]; exact R.slot i d h), R.emp, R.nd, R.dj, R.zn, fun i hi a ha => (by
    show unl (PD.unlA H0 w.H) a = PD.unlA H0 w.H a
    rw [unlA_unl, unlA_same (R.nl i hi a ha)]; exact R.nl i hi a ha), R.pin, fun a xs e => (by
    have e : PD.unlA H0 w.H a = some (.tup xs) := e
    rcases @unlA_at H0 w.H a with q | ⟨od, u, e1, e2, e3, _⟩
    · rw [q] at e; exact R.tz a xs e
    · rw [e3] at e; cases e; cases e2)⟩
theorem ValR.unlA {G : Gc} {w : Wd} {d : D} {v : V} {L : List Addr} {m : Nat} {H0 : Hp} (V : ValR G w d v L (.own m)) : ValR G ⟨w.Z, PD.unlA H0 w.H, w.Ls⟩ d v L (.own m) := by
  obtain ⟨h1, h2, h3⟩ := V
  refine ⟨?_, h2, fun a ha => ⟨(h3 a ha).1, (h3 a ha).2.1, ?_⟩⟩
  · show Ow G.K G.CA w.Z (unl (PD.unlA H0 w.H)) m d v L
    rw [unlA_unl]; exact h1
  · show unl (PD.unlA H0 w.H) a = PD.unlA H0 w.H a
    rw [unlA_unl, unlA_same (h3 a ha).2.2]; exact (h3 a ha).2.2
theorem _root_.L2.Inv.unlA {X : Cx} {pins : List (Addr × Obj)} {σ : List (Option V)} {H : Hp} {s : Shared} (I : Inv X pins σ H s) : Inv X pins σ (PD.unlA X.H_0 H) s := by
  have st : ∀ n : Nat, Inv X pins σ (fun a => if a < n then PD.unlA X.H_0 H a else H a) s := by
    intro n
    induction n with
    | zero =>
      have : (fun a => if a < 0 then PD.unlA X.H_0 H a else H a) = H := by funext a; rw [if_neg (Nat.not_lt_zero a)]
      rw [this]; exact I
    | succ n ih =>
      rcases @unlA_at X.H_0 H n with hq | ⟨od, u, e, hk, hq, h0⟩
      · have eq : (fun a => if a < n + 1 then PD.unlA X.H_0 H a else H a) = (fun a => if a < n then PD.unlA X.H_0 H a else H a) := by
          funext a
          by_cases z : a = n
          · subst z
            rw [if_pos (Nat.lt_succ_self a), if_neg (Nat.lt_irrefl a)]
            exact hq
          · by_cases l : a < n
            · rw [if_pos l, if_pos (by omega)]
            · rw [if_neg l, if_neg (by omega)]
        rw [eq]; exact ih
      · have := ih.unlock (d := n) (od := od) (u := u) (by show (if n < n then _ else H n) = _; rw [if_neg (Nat.lt_irrefl n)]; exact e) h0
        have eq : (fun a => if a < n + 1 then PD.unlA X.H_0 H a else H a) = upd (fun a => if a < n then PD.unlA X.H_0 H a else H a) n u := by
          funext a
          by_cases z : a = n
          · subst z
            rw [upd_same, if_pos (Nat.lt_succ_self a)]
            exact hq
          · rw [upd_ne z]
            by_cases l : a < n
            · rw [if_pos l, if_pos (by omega)]
            · rw [if_neg l, if_neg (by omega)]
        rw [eq]; exact this
  have eq : PD.unlA X.H_0 H = (fun a => if a < s.heap.objs.size then PD.unlA X.H_0 H a else H a) := by
    funext a
    by_cases l : a < s.heap.objs.size
    · rw [if_pos l]
    · rw [if_neg l]
      rw [I.hok.fresh (Nat.le_of_not_lt l)]
      exact unlA_none.mpr (I.hok.fresh (Nat.le_of_not_lt l))
  rw [eq]; exact st _
/-- at its end a body unlocks what it locked -/
theorem _root_.L2.PSs.unlA {X : Cx} {ss : List Stmt} {t : TS} (h : PSs X ss t) : PSs X ss (fun Dn σ H => t ⟨fun σ' H' => Dn.nx σ' (PD.unlA X.H_0 H'), fun v H' => Dn.rt v (PD.unlA X.H_0 H'), fun σ' H' => Dn.bk σ' (PD.unlA X.H_0 H'), fun σ' H' => Dn.ct σ' (PD.unlA X.H_0 H')⟩ σ H) := by
  refine ⟨fun pins s σ H D I hw => ?_⟩
  refine thn (h.run pins s σ _ _ I hw) fun f s1 q => ?_
  cases f with
  | next => obtain ⟨σ', H', I2, q⟩ := q; exact ⟨σ', _, I2.unlA, q⟩
  | brk => obtain ⟨σ', H', I2, q⟩ := q; exact ⟨σ', _, I2.unlA, q⟩
  | cont => obtain ⟨σ', H', I2, q⟩ := q; exact ⟨σ', _, I2.unlA, q⟩
  | ret v => obtain ⟨x, σ', H', I2, r, q⟩ := q; exact ⟨x, σ', _, I2.unlA, r, q⟩
/-- what a call may change: nothing stays locked -/
structure ExtS (E : List Nat) (w w' : Wd) : Prop where
  x : Ext E w w'
  st : ∀ a o, w.H a = some o → (∀ j ∈ E, a ∉ w.Ls j) → w'.H a = some o
theorem Ext.s {E : List Nat} {w w' : Wd} (x : Ext E w w') : ExtS E w ⟨w'.Z, PD.unlA w.H w'.H, w'.Ls⟩ := by
  have st : ∀ a o, w.H a = some o → (∀ j ∈ E, a ∉ w.Ls j) → PD.unlA w.H w'.H a = some o := fun a o e n => by
    rcases x.hh a o e n with h | ⟨_, h2, od, h3⟩
    · rcases @unlA_at w.H w'.H a with q | ⟨od, u, e1, e2, e3, e4⟩
      · rw [q]; exact h
      · rw [h] at e1; cases e1; exact absurd e (e4 _ _)
    · unfold PD.unlA
      rw [h3, e]
      cases o <;> first | (cases h2; done) | rfl
  exact ⟨⟨x.zz, fun a o e n => .inl (st a o e n), x.zn, x.ll, x.ln, fun a h => fun z => x.al a h (unlA_none.mp z)⟩, st⟩
/-! ### defs and their calls -/
/-- the parameters' levels (0: read only), the answer's -/
structure Sg where
  pm : List Nat
  k : Nat
abbrev Sg.n (sg : Sg) : Nat := sg.pm.length
/-- the parameters that the def changes -/
def Sg.ios (sg : Sg) : List Nat := (List.range sg.pm.length).filter fun i => decide (md sg.pm i ≠ 0)
theorem Sg.mem_ios {sg : Sg} {i : Nat} : i ∈ sg.ios ↔ i < sg.n ∧ md sg.pm i ≠ 0 := by
  unfold Sg.ios
  rw [List.mem_filter, List.mem_range]
  simp
def G0 (K : PySem.W.Frag) (CA : Str → Addr) : Gc := ⟨K, CA, [], fun _ => .non⟩
/-- what stands in the changed parameters behind a call -/
def outE (sg : Sg) (ds' : List D) : Ev := (List.range sg.n).map fun i => if md sg.pm i = 0 then none else some (ds'.getD i .non)
abbrev FD := List D → Option (D × List D)
def spD (K : PySem.W.Frag) (CA : Str → Addr) (sg : Sg) (F : FD) : Sp := fun vs H Q _ => ∃ (w : Wd) (ds : List D) (r : D) (ds' : List D), w.H = H ∧ vs.length = sg.n ∧ ds.length = sg.n ∧
  Rel (G0 K CA) sg.pm [] w (ds.map some) (vs.map some) ∧ F ds = some (r, ds') ∧
  ∀ w' v L, Rel (G0 K CA) sg.pm [] w' (outE sg ds') (vs.map some) → ExtS sg.ios w w' → ValR (G0 K CA) w' r v L (.own sg.k) → New sg.ios w [] L → Q v w'.H
def outD (n : Nat) (e : Ev) : List D := (List.range n).map fun i => (e.getD i none).getD .non
/-- what a body computes -/
def semD (c : DS) (sg : Sg) (n : Nat) : FD := fun ds => match c (ds.map some ++ List.replicate (n - sg.n) none) with
  | some (.rt d e) => if (sg.ios.all fun i => (e.getD i none).isSome) = true then some (d, outD sg.n e) else none
  | some (.nx e) => if (sg.ios.all fun i => (e.getD i none).isSome) = true then some (.non, outD sg.n e) else none
  | _ => none
theorem there_of {sg : Sg} {e : Ev} (h : (sg.ios.all fun i => (e.getD i none).isSome) = true) : ∀ i ∈ sg.ios, ∃ d, e[i]? = some (some d) := fun i hi => by
  have h := List.all_eq_true.mp h i hi
  rw [List.getD_eq_getElem?_getD] at h
  cases q : e[i]? with
  | none => rw [q] at h; cases h
  | some o =>
    cases o with
    | none => rw [q] at h; cases h
    | some d => exact ⟨d, rfl⟩
theorem md_app {a b : List Nat} {i : Nat} (hb : ∀ x ∈ b, x = 0) : md (a ++ b) i = md a i := by
  unfold md
  rw [List.getD_eq_getElem?_getD, List.getD_eq_getElem?_getD]
  by_cases h : i < a.length
  · rw [List.getElem?_append_left h]
  · rw [List.getElem?_append_right (by omega), List.getElem?_eq_none (by omega : a.length ≤ i)]
    cases e : b[i - a.length]? with
    | none => rfl
    | some x => rw [hb x (List.mem_of_getElem? e)]; rfl
section
variable {P : Program} {wo : World} {K : PySem.W.Frag} {mg : Str → Option Value} {base : Heap} {CA : Str → Addr}
theorem ow_mode0 {G : Gc} {ms lk : List Nat} {w : Wd} {env : Ev} {σ : L2.St} (R : Rel G ms lk w env σ) {i : Nat} (h : md ms i = 0) : w.Ls i = [] := by
  cases e : env[i]? with
  | none => exact R.emp i fun d z => by rw [e] at z; cases z
  | some o =>
    cases o with
    | none => exact R.emp i fun d z => by rw [e] at z; cases z
    | some d =>
      obtain ⟨v, _, q⟩ := R.slot i d e
      rw [h] at q
      exact q.1
/-- a def by its body -/
theorem fnD {x qual : Str} {st : Stmt} {f : Addr} {fd : FuncData} {N ps : List Str} {k : Nat} {sg : Sg} {c : DS} (ms0 : List Nat) (F : Fun K x qual st f fd) (S : FnScope N ps (defScope st)) (hps : ps.length = sg.n) (hN : sg.n ≤ N.length)
    (hms : ∀ i, i < sg.n → md ms0 i = md sg.pm i)
    (body : ∀ (cd : Value) (A : Around) (outer : List Env) (s : Shared) (H : Hp) (E : XK) (pv : Nat → V), A.guards = some [] → Room k (A.deeper (envOfC qual (defScope st) s.heap.objs.size f cd)) →
      ∃ EE, PSs (cxOf CX0 P wo K mg base N qual (defScope st) f cd A outer s H E).nox (defBody st) (tS ⟨K, CA, sg.ios, pv⟩ ms0 [] ms0 EE ⟨sg.k, sg.ios.map fun i => (i, md sg.pm i), []⟩ E0 c)) :
    FnG P wo K mg base (k + 1) f fd ps (spD K CA sg (semD c sg N.length)) := by
  refine fun_okG F S (fun vs H Q E h => ?_) (fun cd A outer s H vs Q E hg hr h => ?_)
  · obtain ⟨w, ds, r, ds', _, h, _⟩ := h
    rw [h, hps]
  · obtain ⟨w, ds, r, ds', rfl, hv, hd, Rl, hF, post⟩ := h
    obtain ⟨EE, hbody⟩ := body cd A outer s w.H E (fun i => vs.getD i .non) hg hr
    refine ⟨_, hbody.unlA, ?_⟩
    unfold semD at hF
    have hio : ∀ i ∈ sg.ios, md ms0 i = md sg.pm i := fun i hi => hms i (Sg.mem_ios.mp hi).1
    have big : ∀ i, sg.n ≤ i → w.Ls i = [] := fun i hi => Rl.emp i fun d z => by
      rw [List.getElem?_map, List.getElem?_eq_none (by omega)] at z; cases z
    have R0 : Rel ⟨K, CA, sg.ios, fun i => vs.getD i .non⟩ ms0 [] w (ds.map some ++ List.replicate (N.length - sg.n) none) (L2.start N vs) := by
      refine ⟨Rl.sub, ?_, fun i d hd' => ?_, fun i hi => ?_, Rl.nd, Rl.dj, Rl.zn, Rl.nl, fun i hi => ?_, Rl.tz⟩
      · unfold L2.start
        simp only [List.length_append, List.length_map, List.length_replicate]
        omega
      · by_cases hi : i < sg.n
        · rw [hms i hi]
          rw [List.getElem?_append_left (by rw [List.length_map]; omega)] at hd'
          obtain ⟨v, q1, q2⟩ := Rl.slot i d hd'
          refine ⟨v, ?_, q2⟩
          unfold L2.start
          rw [List.getElem?_append_left (by rw [List.length_map]; omega)]
          exact q1
        · rw [List.getElem?_append_right (by rw [List.length_map]; omega)] at hd'
          rw [List.getElem?_replicate] at hd'
          split at hd' <;> cases hd'
      · by_cases h : i < sg.n
        · refine Rl.emp i fun d z => hi d ?_
          rw [List.getElem?_append_left (by rw [List.length_map]; omega)]
          exact z
        · exact big i (by omega)
      · have h := (Sg.mem_ios.mp hi).1
        unfold L2.start
        rw [List.getElem?_append_left (by rw [List.length_map]; omega), List.getElem?_map]
        show Option.map some vs[i]? = some (some (vs.getD i .non))
        rw [List.getD_eq_getElem?_getD, List.getElem?_eq_getElem (by omega)]
        rfl
    -- the end of the body
    have fin : ∀ (w' : Wd) (env' env'' : Ev) (σ' : L2.St) (v : V) (L : List Addr) (msr lkr : List Nat) (d : D), Rel ⟨K, CA, sg.ios, fun i => vs.getD i .non⟩ msr lkr w' env'' σ' → (∀ i ∈ sg.ios, md msr i = md sg.pm i ∧ i ∉ lkr ∧ env''[i]? = env'[i]?) → Ext EE w w' →
        ValR ⟨K, CA, sg.ios, fun i => vs.getD i .non⟩ w' d v L (.own sg.k) → New EE w [] L → (r, ds') = (d, outD sg.n env') → (∀ i ∈ sg.ios, ∃ e, env'[i]? = some (some e)) → Q v (unlA w.H w'.H) := by
      intro w0' env' env'' σ' v L msr lkr d R0' io x0' V0 n e there
      cases e
      obtain ⟨w', hw'⟩ : ∃ w' : Wd, w' = ⟨w0'.Z, unlA w.H w0'.H, w0'.Ls⟩ := ⟨_, rfl⟩
      have R' : Rel ⟨K, CA, sg.ios, fun i => vs.getD i .non⟩ msr lkr w' env'' σ' := by rw [hw']; exact R0'.unlA
      have xs' : ExtS EE w w' := by rw [hw']; exact x0'.s
      have V : ValR ⟨K, CA, sg.ios, fun i => vs.getD i .non⟩ w' r v L (.own sg.k) := by rw [hw']; exact V0.unlA
      have x := xs'.x
      have hQ : unlA w.H w0'.H = w'.H := by rw [hw']
      rw [hQ]
      clear hw' hQ
      have inn : ∀ {j : Nat} {a : Addr}, j ∈ EE → a ∈ w.Ls j → j ∈ sg.ios := fun {j a} _ ha => by
        refine Sg.mem_ios.mpr ⟨?_, fun z => ?_⟩
        · by_cases h : j < sg.n
          · exact h
          · rw [big j (by omega)] at ha; cases ha
        · rw [ow_mode0 Rl z] at ha; cases ha
      refine post ⟨w'.Z, w'.H, fun j => if j ∈ sg.ios then w'.Ls j else []⟩ v L ⟨R'.sub, ?_, fun i d' hd' => ?_, fun i hi => ?_, fun i => ?_, fun i j hij a ha => ?_, fun i a ha => ?_, fun i _ a ha => ?_, (fun _ z => by cases z), R'.tz⟩ ⟨⟨x.zz, fun a o e1 e2 => x.hh a o e1 fun j hj ha => e2 j (inn hj ha) ha, fun a z1 z2 z3 => ?_, fun j hj => ?_, fun j hj a ha hn => ?_, x.al⟩, fun a o e1 e2 => xs'.st a o e1 fun j hj ha => e2 j (inn hj ha) ha⟩ ⟨V.1, V.2.1, fun a ha => ?_⟩ fun a ha hn => ?_
      · unfold outE
        rw [List.length_map, List.length_range, List.length_map, hv]
      · unfold outE at hd'
        rw [List.getElem?_map] at hd'
        cases e1 : (List.range sg.n)[i]? with
        | none => rw [e1] at hd'; cases hd'
        | some j =>
          rw [e1] at hd'
          obtain ⟨hlt, e2⟩ := List.getElem?_eq_some_iff.mp e1
          rw [List.getElem_range] at e2
          subst e2
          rw [List.length_range] at hlt
          have hd' : some (if md sg.pm i = 0 then none else some ((outD sg.n env').getD i .non)) = some (some d') := hd'
          split at hd'
          · cases hd'
          · rename_i hm
            have hi := Sg.mem_ios.mpr ⟨hlt, hm⟩
            obtain ⟨e3, he3⟩ := there i hi
            obtain ⟨i1, i2, i3⟩ := io i hi
            obtain ⟨v', hv', q⟩ := R'.slot i e3 (i3.trans he3)
            have e4 : (outD sg.n env').getD i .non = e3 := by
              unfold outD
              rw [List.getD_eq_getElem?_getD, List.getElem?_map, e1]
              show (env'.getD i none).getD .non = e3
              rw [List.getD_eq_getElem?_getD, he3]
              rfl
            rw [e4] at hd'
            cases hd'
            refine ⟨v', ?_, ?_⟩
            · have h1 := R'.pin i hi
              rw [hv'] at h1
              have h1 : v' = vs.getD i .non := by injection h1 with h1; injection h1
              rw [List.getElem?_map, List.getElem?_eq_getElem (by omega), h1, List.getD_eq_getElem?_getD, List.getElem?_eq_getElem (by omega)]
              rfl
            · rw [← i1]
              show Ow _ _ _ _ _ _ _ (if i ∈ sg.ios then w'.Ls i else [])
              rw [if_pos hi]
              exact q
      · show (if i ∈ sg.ios then w'.Ls i else []) = []
        split
        · rename_i h
          refine absurd ?_ (hi ((outD sg.n env').getD i .non))
          unfold outE
          obtain ⟨h1, h2⟩ := Sg.mem_ios.mp h
          rw [List.getElem?_map, List.getElem?_eq_getElem (by rw [List.length_range]; exact h1), List.getElem_range]
          show some (if md sg.pm i = 0 then none else _) = _
          rw [if_neg h2]
        · rfl
      · show (if i ∈ sg.ios then w'.Ls i else []).Nodup
        split
        · exact R'.nd i
        · exact List.nodup_nil
      · have ha : a ∈ (if i ∈ sg.ios then w'.Ls i else []) := ha
        show a ∉ (if j ∈ sg.ios then w'.Ls j else [])
        split at ha
        · split
          · exact R'.dj i j hij a ha
          · simp
        · cases ha
      · have ha : a ∈ (if i ∈ sg.ios then w'.Ls i else []) := ha
        split at ha
        · exact R'.zn i a ha
        · cases ha
      · have ha : a ∈ (if i ∈ sg.ios then w'.Ls i else []) := ha
        split at ha
        · rename_i h
          exact R'.nl i (io i h).2.1 a ha
        · cases ha
      · obtain ⟨j, hj, q⟩ := x.zn a z1 z2 z3
        exact ⟨j, inn hj q, q⟩
      · show (if j ∈ sg.ios then w'.Ls j else []) = w.Ls j
        rw [if_neg hj]
        by_cases h : j < sg.n
        · exact (ow_mode0 Rl (Classical.byContradiction fun z => hj (Sg.mem_ios.mpr ⟨h, z⟩))).symm
        · exact (big j (by omega)).symm
      · have ha : a ∈ (if j ∈ sg.ios then w'.Ls j else []) := ha
        rw [if_pos hj] at ha
        obtain ⟨i, q, hi⟩ := x.back ha hn
        rcases hi with rfl | hi
        · exact ⟨i, hj, q⟩
        · exact ⟨i, inn hi q, q⟩
      · obtain ⟨y1, y2, y3⟩ := V.2.2 a ha
        refine ⟨y1, fun j => ?_, y3⟩
        show a ∉ (if j ∈ sg.ios then w'.Ls j else [])
        split
        · exact y2 j
        · simp
      · obtain ⟨j, hj, q⟩ := n a ha hn
        rcases hj with hj | hj
        · exact ⟨j, .inl (inn hj q), q⟩
        · cases hj
    cases eo : c (ds.map some ++ List.replicate (N.length - sg.n) none) with
    | none => rw [eo] at hF; cases hF
    | some o =>
      rw [eo] at hF
      refine ⟨w, _, o, rfl, R0, eo, ?_⟩
      cases o with
      | nx e =>
        intro w' σ' R' x
        dsimp only at hF
        split at hF
        · rename_i ht
          cases hF
          exact fin w' e e σ' .non [] ms0 [] .non R' (fun i hi => ⟨hio i hi, by simp, rfl⟩) x (ValR.atom rfl) .nil rfl (there_of ht)
        · cases hF
      | rt d e =>
        intro w' σ' v L msr lkr env'' R' io x V n
        dsimp only at hF
        split at hF
        · rename_i ht
          cases hF
          exact fin w' e env'' σ' v L msr lkr r R' (fun i hi => io (i, md sg.pm i) (List.mem_map.mpr ⟨i, hi, rfl⟩)) x V n rfl (there_of ht)
        · cases hF
      | bk e => cases hF
      | ct e => cases hF
      | ex y e => cases hF
end
end PD
namespace PD
open PySem PySem.Spec PyProof.Rows L2 GF
/-! ### calls of the program's own defs -/
/-- an argument: a value, or a slot whose thing the callee changes -/
inductive Ac where
  | val (k : Kd)
  | slt (j : Nat)
abbrev Ac.bs : Ac → List Nat
  | .val k => k.bs
  | .slt _ => []
abbrev bsC (as : List Ac) : List Nat := as.flatMap Ac.bs
def sltC : List Ac → List Nat
  | [] => []
  | .slt j :: as => j :: sltC as
  | .val _ :: as => sltC as
def VC (G : Gc) (w : Wd) (σ : L2.St) : List Ac → List D → List V → List Addr → Prop
  | [], ds, vs, L => ds = [] ∧ vs = [] ∧ L = []
  | .val k :: as, ds, vs, L => ∃ d ds' v vs' L1 L2, ds = d :: ds' ∧ vs = v :: vs' ∧ L = L1 ++ L2 ∧ ValR G w d v L1 k ∧ VC G w σ as ds' vs' L2
  | .slt j :: as, ds, vs, L => ∃ d ds' v vs', ds = d :: ds' ∧ vs = v :: vs' ∧ σ[j]? = some (some v) ∧ VC G w σ as ds' vs' L
def FinC (G : Gc) (ms lk : List Nat) (as : List Ac) (E : List Nat) (XE : XK) (w : Wd) (σ : L2.St) (Q : List V → Hp → Prop) : Out (List D) → Prop
  | .ok ds env' => ∀ w' vs L, Rel G ms lk w' env' σ → Ext E w w' → VC G w' σ as ds vs L → New E w (bsC as) L → Q vs w'.H
  | .ex x env' => ∀ w' p, Rel G ms lk w' env' σ → Ext E w w' → Pay G w' x p → XE (.ref (G.CA x.c)) p w'.H
def tC' (G : Gc) (ms lk : List Nat) (as : List Ac) (E : List Nat) (XE : XK) (c : DA) : TA := fun σ H Q => ∃ w env o, w.H = H ∧ Rel G ms lk w env σ ∧ c env = some o ∧ FinC G ms lk as E XE w σ Q o
section
variable {X : Cx} {G : Gc} {ms lk : List Nat} {k ka kb : Kd} {as : List Ac} {E Ea Eb : List Nat} {XE : XK} {pos p : Pos} {a b e : Expr} {es : List Expr} {ca cb : DE} {cs : DA}
theorem FinC.step {w w1 : Wd} {σ : L2.St} {Q : List V → Hp → Prop} : ∀ {o : Out (List D)}, FinC G ms lk as E XE w σ Q o → Ext E w w1 → FinC G ms lk as E XE w1 σ Q o
  | .ok _ _, h, x => fun w' v L R y V n => h w' v L R (x.trans y) V (n.back x)
  | .ex _ _, h, x => fun w' p R y P => h w' p R (x.trans y) P
theorem tC'.bindG {β : Type} {FF : Wd → Out β → Prop} {E1 : List Nat} {w : Wd} {env : Ev} {σ : L2.St} {P : List V → Hp → Prop} {c : DA} {f : List D → Ev → Option (Out β)} {o : Out β} (R : Rel G ms lk w env σ) (ho : bnd c f env = some o) (F : FF w o)
    (hs : ∀ w1, Ext E1 w w1 → FF w o → FF w1 o) (hx : ∀ x e, o = .ex x e → FF w o → ∀ w' p, Rel G ms lk w' e σ → Ext E1 w w' → Pay G w' x p → XE (.ref (G.CA x.c)) p w'.H)
    (hp : ∀ w1 env1 d v L, Rel G ms lk w1 env1 σ → Ext E1 w w1 → VC G w1 σ as d v L → New E1 w (bsC as) L → f d env1 = some o → FF w1 o → P v w1.H) : tC' G ms lk as E1 XE c σ w.H P := by
  unfold bnd at ho
  split at ho
  · rename_i d e1 he
    refine ⟨w, env, .ok d e1, rfl, R, he, fun w' v L R' x V n => hp w' e1 d v L R' x V n ho (hs w' x F)⟩
  · rename_i x e1 he
    cases ho
    exact ⟨w, env, .ex x e1, rfl, R, he, hx x e1 rfl F⟩
  · cases ho
theorem VC.ext {w w' : Wd} {σ : L2.St} (x : Ext E w w') (Rd : DZ w) : ∀ {as : List Ac} {ds : List D} {vs : List V} {L : List Addr}, VC G w σ as ds vs L → (∀ j ∈ bsC as, j ∉ E) → VC G w' σ as ds vs L
  | [], _, _, _, h, _ => h
  | .val k :: as, _, _, _, h, hd => by
    obtain ⟨d, ds', v, vs', L1, L2, e1, e2, e3, h1, h2⟩ := h
    exact ⟨d, ds', v, vs', L1, L2, e1, e2, e3, h1.ext x (fun j hj => hd j (List.mem_append_left _ hj)) Rd, VC.ext x Rd h2 fun j hj => hd j (List.mem_append_right _ hj)⟩
  | .slt j :: as, _, _, _, h, hd => by
    obtain ⟨d, ds', v, vs', e1, e2, e3, h2⟩ := h
    exact ⟨d, ds', v, vs', e1, e2, e3, VC.ext x Rd h2 fun j hj => hd j (List.mem_append_right _ hj)⟩
theorem sc_nil : PA X [] (tC' G ms lk [] [] XE nilA) := pa_nil.weak fun σ H Q ⟨w, env, o, hH, R, ho, F⟩ => by
  cases ho
  have := F w [] [] R .refl ⟨rfl, rfl, rfl⟩ .nil
  rw [hH] at this
  exact this
theorem sc_val (ha : PE X a (tD G ms lk k Ea XE ca)) (hs : PA X es (tC' G ms lk as Eb XE cs)) (hd : ∀ j ∈ k.bs, j ∉ Eb := by decide) (he : starEach (a :: es) X.env = (false, eval a X.env) :: starEach es X.env := by rfl) :
    PA X (a :: es) (tC' G ms lk (.val k :: as) (Ea ++ Eb) XE (consA ca cs)) := (pa_cons ha hs he).weak fun σ H Q ⟨w, env, o, hH, R, ho, F⟩ => by
  rw [← hH]
  refine tD.bindG (FF := fun w o => FinC G ms lk (.val k :: as) (Ea ++ Eb) XE w σ Q o) R ho F (fun w1 x F => F.step (x.mono fun j hj => List.mem_append_left _ hj)) (fun x e eo F w' p R' x' P => by subst eo; exact F w' p R' (x'.mono fun j hj => List.mem_append_left _ hj) P) fun w1 env1 d v L R1 x1 V1 n1 ho1 F1 => ?_
  refine tC'.bindG (FF := fun w o => FinC G ms lk (.val k :: as) (Ea ++ Eb) XE w σ Q o) R1 ho1 F1 (fun w1 x F => F.step (x.mono fun j hj => List.mem_append_right _ hj)) (fun x e eo F w' p R' x' P => by subst eo; exact F w' p R' (x'.mono fun j hj => List.mem_append_right _ hj) P) fun w2 env2 d2 v2 L2 R2 x2 V2' n2 ho2 F2 => ?_
  obtain ⟨z, hz, rfl⟩ := lf_some ho2
  cases hz
  refine F w2 (v :: v2) (L ++ L2) R2 ((x1.mono fun j hj => List.mem_append_left _ hj).trans (x2.mono fun j hj => List.mem_append_right _ hj)) ⟨d, d2, v, v2, L, L2, rfl, rfl, rfl, V1.ext x2 hd R1.dz, V2'⟩ fun a ha hn => ?_
  rcases List.mem_append.mp ha with h1 | h2
  · obtain ⟨j, hj, q⟩ := n1 a h1 hn
    exact ⟨j, hj.imp (fun z => List.mem_append_left _ z) fun z => List.mem_append_left _ z, q⟩
  · obtain ⟨j, hj, q⟩ := ((n2.mono (E' := Ea ++ Eb) (fun j hj => List.mem_append_right _ hj) (fun _ z => z)).back (x1.mono fun j hj => List.mem_append_left _ hj)) a h2 hn
    exact ⟨j, hj.imp id fun z => List.mem_append_right _ z, q⟩
def consS (j : Nat) (b : DA) : DA := fun env => match env[j]? with
  | some (some _) => bnd b (fun ds => lf (some (.non :: ds))) env
  | _ => none
theorem sc_slt {j : Nat} (ha : PE X a (tVar j)) (hs : PA X es (tC' G ms lk as Eb XE cs)) (he : starEach (a :: es) X.env = (false, eval a X.env) :: starEach es X.env := by rfl) :
    PA X (a :: es) (tC' G ms lk (.slt j :: as) Eb XE (consS j cs)) := (pa_cons ha hs he).weak fun σ H Q ⟨w, env, o, hH, R, ho, F⟩ => by
  rw [← hH]
  unfold consS at ho
  split at ho
  · rename_i d hd
    obtain ⟨v, hv, _⟩ := R.slot j d hd
    refine ⟨v, hv, ?_⟩
    refine tC'.bindG (FF := fun w o => FinC G ms lk (.slt j :: as) Eb XE w σ Q o) R ho F (fun w1 x F => F.step x) (fun x e eo F w' p R' x' P => by subst eo; exact F w' p R' x' P) fun w2 env2 d2 v2 L2 R2 x2 V2' n2 ho2 F2 => ?_
    obtain ⟨z, hz, rfl⟩ := lf_some ho2
    cases hz
    exact F w2 (v :: v2) L2 R2 x2 ⟨.non, d2, v, v2, rfl, rfl, hv, V2'⟩ n2
  · cases ho
end
/-! what the callee gets, what comes back -/
def fillA : List Ac → List D → Ev → Option (List D)
  | [], _, _ => some []
  | .val _ :: as, ds, e => (fillA as ds.tail e).map (ds.headD .non :: ·)
  | .slt j :: as, ds, e => match e[j]? with
    | some (some d) => (fillA as ds.tail e).map (d :: ·)
    | _ => none
def backA : List Ac → List D → Ev → Ev
  | [], _, e => e
  | .val _ :: as, ds, e => backA as ds.tail e
  | .slt j :: as, ds, e => backA as ds.tail (e.set j (some (ds.headD .non)))
def okC (ms lk : List Nat) : List Nat → List Ac → Bool
  | [], [] => true
  | m :: pm, .val _ :: as => decide (m = 0) && okC ms lk pm as
  | m :: pm, .slt j :: as => decide (m ≠ 0) && decide (m = md ms j) && decide (j ∉ lk) && okC ms lk pm as
  | _, _ => false
def idxC : List Ac → Nat → Nat
  | [], _ => 0
  | .val _ :: as, j => idxC as j + 1
  | .slt i :: as, j => if i = j then 0 else idxC as j + 1
section
variable {ms lk : List Nat}
theorem okC_len : ∀ {pm : List Nat} {as : List Ac}, okC ms lk pm as = true → as.length = pm.length
  | [], [], _ => rfl
  | [], _ :: _, h => by cases h
  | _ :: _, [], h => by cases h
  | m :: pm, .val _ :: as, h => by
    obtain ⟨_, h⟩ := Bool.and_eq_true_iff.mp (show (decide (m = 0) && okC ms lk pm as) = true from h)
    rw [List.length_cons, List.length_cons, okC_len h]
  | m :: pm, .slt j :: as, h => by
    obtain ⟨_, h⟩ := Bool.and_eq_true_iff.mp (show (decide (m ≠ 0) && decide (m = md ms j) && decide (j ∉ lk) && okC ms lk pm as) = true from h)
    rw [List.length_cons, List.length_cons, okC_len h]
theorem okC_val : ∀ {pm : List Nat} {as : List Ac} {i : Nat} {k : Kd}, okC ms lk pm as = true → as[i]? = some (.val k) → md pm i = 0
  | [], [], _, _, _, e => by cases e
  | [], _ :: _, _, _, h, _ => by cases h
  | _ :: _, [], _, _, h, _ => by cases h
  | m :: pm, .val _ :: as, 0, _, h, _ => of_decide_eq_true (Bool.and_eq_true_iff.mp (show (decide (m = 0) && okC ms lk pm as) = true from h)).1
  | m :: pm, .val _ :: as, i + 1, _, h, e => okC_val (i := i) (Bool.and_eq_true_iff.mp (show (decide (m = 0) && okC ms lk pm as) = true from h)).2 e
  | m :: pm, .slt j :: as, 0, _, _, e => by cases e
  | m :: pm, .slt j :: as, i + 1, _, h, e => okC_val (i := i) (Bool.and_eq_true_iff.mp (show (decide (m ≠ 0) && decide (m = md ms j) && decide (j ∉ lk) && okC ms lk pm as) = true from h)).2 e
theorem okC_slt : ∀ {pm : List Nat} {as : List Ac} {i j : Nat}, okC ms lk pm as = true → as[i]? = some (.slt j) → md pm i ≠ 0 ∧ md pm i = md ms j ∧ j ∉ lk
  | [], [], _, _, _, e => by cases e
  | [], _ :: _, _, _, h, _ => by cases h
  | _ :: _, [], _, _, h, _ => by cases h
  | m :: pm, .val _ :: as, 0, _, _, e => by cases e
  | m :: pm, .val _ :: as, i + 1, _, h, e => okC_slt (i := i) (Bool.and_eq_true_iff.mp (show (decide (m = 0) && okC ms lk pm as) = true from h)).2 e
  | m :: pm, .slt j :: as, 0, _, h, e => by
    cases e
    obtain ⟨h, _⟩ := Bool.and_eq_true_iff.mp (show (decide (m ≠ 0) && decide (m = md ms j) && decide (j ∉ lk) && okC ms lk pm as) = true from h)
    obtain ⟨h, h3⟩ := Bool.and_eq_true_iff.mp h
    obtain ⟨h1, h2⟩ := Bool.and_eq_true_iff.mp h
    exact ⟨of_decide_eq_true h1, of_decide_eq_true h2, of_decide_eq_true h3⟩
  | m :: pm, .slt j :: as, i + 1, _, h, e => okC_slt (i := i) (Bool.and_eq_true_iff.mp (show (decide (m ≠ 0) && decide (m = md ms j) && decide (j ∉ lk) && okC ms lk pm as) = true from h)).2 e
end
theorem slt_mem : ∀ {as : List Ac} {i j : Nat}, as[i]? = some (.slt j) → j ∈ sltC as
  | [], _, _, e => by cases e
  | .val _ :: as, 0, _, e => by cases e
  | .val _ :: as, i + 1, _, e => slt_mem (as := as) (i := i) e
  | .slt _ :: as, 0, _, e => by cases e; exact List.mem_cons_self
  | .slt _ :: as, i + 1, _, e => List.mem_cons_of_mem _ (slt_mem (as := as) (i := i) e)
theorem mem_slt : ∀ {as : List Ac} {j : Nat}, j ∈ sltC as → as[idxC as j]? = some (.slt j)
  | [], _, h => by cases h
  | .val _ :: as, j, h => by
    show (Ac.val _ :: as)[idxC as j + 1]? = _
    rw [List.getElem?_cons_succ]
    exact mem_slt (as := as) h
  | .slt i :: as, j, h => by
    show (Ac.slt i :: as)[if i = j then 0 else idxC as j + 1]? = _
    by_cases e : i = j
    · rw [if_pos e, e]; rfl
    · rw [if_neg e, List.getElem?_cons_succ]
      exact mem_slt (as := as) ((List.mem_cons.mp h).resolve_left (Ne.symm e))
theorem slt_inj : ∀ {as : List Ac} {i l j : Nat}, (sltC as).Nodup → as[i]? = some (.slt j) → as[l]? = some (.slt j) → i = l
  | [], _, _, _, _, e, _ => by cases e
  | .val _ :: as, 0, _, _, _, e, _ => by cases e
  | .val _ :: as, _ + 1, 0, _, _, _, e => by cases e
  | .val _ :: as, i + 1, l + 1, _, h, e, e' => by rw [slt_inj (as := as) (i := i) (l := l) h e e']
  | .slt _ :: as, 0, 0, _, _, _, _ => rfl
  | .slt j0 :: as, 0, l + 1, _, h, e, e' => by
    cases e
    exact absurd (slt_mem (as := as) (i := l) e') (List.nodup_cons.mp h).1
  | .slt j0 :: as, i + 1, 0, _, h, e, e' => by
    cases e'
    exact absurd (slt_mem (as := as) (i := i) e) (List.nodup_cons.mp h).1
  | .slt j0 :: as, i + 1, l + 1, _, h, e, e' => by rw [slt_inj (as := as) (i := i) (l := l) (List.nodup_cons.mp h).2 e e']
theorem fill_len : ∀ {as : List Ac} {ds fs : List D} {e : Ev}, fillA as ds e = some fs → fs.length = as.length
  | [], _, _, _, h => by cases h; rfl
  | .val _ :: as, ds, _, e, h => by
    obtain ⟨r, hr, rfl⟩ := Option.map_eq_some_iff.mp (show (fillA as ds.tail e).map _ = _ from h)
    rw [List.length_cons, List.length_cons, fill_len hr]
  | .slt j :: as, ds, _, e, h => by
    unfold fillA at h
    split at h
    · obtain ⟨r, hr, rfl⟩ := Option.map_eq_some_iff.mp h
      rw [List.length_cons, List.length_cons, fill_len hr]
    · cases h
theorem fill_slt : ∀ {as : List Ac} {ds fs : List D} {e : Ev} {i j : Nat}, fillA as ds e = some fs → as[i]? = some (.slt j) → ∃ d, fs[i]? = some d ∧ e[j]? = some (some d)
  | [], _, _, _, _, _, _, h => by cases h
  | .val _ :: as, ds, _, e, 0, _, _, h => by cases h
  | .val _ :: as, ds, _, e, i + 1, _, h, q => by
    obtain ⟨r, hr, rfl⟩ := Option.map_eq_some_iff.mp (show (fillA as ds.tail e).map _ = _ from h)
    exact fill_slt (i := i) hr q
  | .slt j :: as, ds, _, e, 0, _, h, q => by
    cases q
    unfold fillA at h
    split at h
    · rename_i d hd
      obtain ⟨r, hr, rfl⟩ := Option.map_eq_some_iff.mp h
      exact ⟨d, rfl, hd⟩
    · cases h
  | .slt j :: as, ds, _, e, i + 1, _, h, q => by
    unfold fillA at h
    split at h
    · obtain ⟨r, hr, rfl⟩ := Option.map_eq_some_iff.mp h
      exact fill_slt (i := i) hr q
    · cases h
theorem back_len : ∀ {as : List Ac} {ds : List D} {e : Ev}, (backA as ds e).length = e.length
  | [], _, _ => rfl
  | .val _ :: as, ds, e => back_len (as := as) (ds := ds.tail) (e := e)
  | .slt j :: as, ds, e => by
    have := back_len (as := as) (ds := ds.tail) (e := e.set j (some (ds.headD .non)))
    rw [List.length_set] at this
    exact this
theorem back_out : ∀ {as : List Ac} {ds : List D} {e : Ev} {j : Nat}, j ∉ sltC as → (backA as ds e)[j]? = e[j]?
  | [], _, _, _, _ => rfl
  | .val _ :: as, ds, e, j, h => back_out (as := as) (ds := ds.tail) (e := e) h
  | .slt i :: as, ds, e, j, h => by
    have h1 : i ≠ j := fun z => h (by subst z; exact List.mem_cons_self)
    have := back_out (as := as) (ds := ds.tail) (e := e.set i (some (ds.headD .non))) (j := j) fun z => h (List.mem_cons_of_mem _ z)
    rw [List.getElem?_set_ne h1] at this
    exact this
theorem back_in : ∀ {as : List Ac} {ds : List D} {e : Ev} {i j : Nat}, as[i]? = some (.slt j) → (sltC as).Nodup → j < e.length → (backA as ds e)[j]? = some (some (ds.getD i .non))
  | [], _, _, _, _, h, _, _ => by cases h
  | .val _ :: as, ds, e, 0, _, h, _, _ => by cases h
  | .val _ :: as, ds, e, i + 1, j, h, n, l => by
    have := back_in (as := as) (ds := ds.tail) (e := e) (i := i) h n l
    rw [show ds.getD (i + 1) .non = ds.tail.getD i .non by cases ds <;> rfl]
    exact this
  | .slt i0 :: as, ds, e, 0, j, h, n, l => by
    cases h
    have := back_out (as := as) (ds := ds.tail) (e := e.set i0 (some (ds.headD .non))) (j := i0) (List.nodup_cons.mp n).1
    rw [List.getElem?_set, if_pos rfl, if_pos l] at this
    rw [show ds.getD 0 .non = ds.headD .non by cases ds <;> rfl]
    exact this
  | .slt i0 :: as, ds, e, i + 1, j, h, n, l => by
    have := back_in (as := as) (ds := ds.tail) (e := e.set i0 (some (ds.headD .non))) (i := i) h (List.nodup_cons.mp n).2 (by rw [List.length_set]; exact l)
    rw [show ds.getD (i + 1) .non = ds.tail.getD i .non by cases ds <;> rfl]
    exact this
section
variable {G : Gc} {w : Wd} {σ : L2.St}
theorem VC.len : ∀ {as : List Ac} {ds : List D} {vs : List V} {L : List Addr}, VC G w σ as ds vs L → vs.length = as.length
  | [], _, _, _, h => by rw [h.2.1]; rfl
  | .val _ :: as, _, _, _, h => by
    obtain ⟨d, ds', v, vs', L1, L2, e1, rfl, e3, h1, h2⟩ := h
    rw [List.length_cons, List.length_cons, VC.len h2]
  | .slt _ :: as, _, _, _, h => by
    obtain ⟨d, ds', v, vs', e1, rfl, e3, h2⟩ := h
    rw [List.length_cons, List.length_cons, VC.len h2]
theorem VC.slt : ∀ {as : List Ac} {ds : List D} {vs : List V} {L : List Addr} {i j : Nat}, VC G w σ as ds vs L → as[i]? = some (.slt j) → ∃ v, vs[i]? = some v ∧ σ[j]? = some (some v)
  | [], _, _, _, _, _, _, e => by cases e
  | .val _ :: as, _, _, _, 0, _, _, e => by cases e
  | .val _ :: as, _, _, _, i + 1, _, h, e => by
    obtain ⟨d, ds', v, vs', L1, L2, e1, rfl, e3, h1, h2⟩ := h
    exact VC.slt (i := i) h2 e
  | .slt _ :: as, _, _, _, 0, _, h, e => by
    cases e
    obtain ⟨d, ds', v, vs', e1, rfl, e3, h2⟩ := h
    exact ⟨v, rfl, e3⟩
  | .slt _ :: as, _, _, _, i + 1, _, h, e => by
    obtain ⟨d, ds', v, vs', e1, rfl, e3, h2⟩ := h
    exact VC.slt (i := i) h2 e
/-- the values among the arguments can be read -/
theorem VC.val (zn : ∀ i, ∀ a ∈ w.Ls i, w.Z a = none) {Z' : Hp} : ∀ {as : List Ac} {ds fs : List D} {vs : List V} {L : List Addr} {e : Ev} {i : Nat} {k : Kd} {d : D}, VC G w σ as ds vs L → fillA as ds e = some fs → (∀ M : List Addr, (∀ a ∈ M, a ∈ L) → Same (pl w.Z (unl w.H) M) Z') →
    as[i]? = some (.val k) → fs[i]? = some d → ∃ v, vs[i]? = some v ∧ Fz G.K G.CA Z' d v
  | [], _, _, _, _, _, _, _, _, _, _, _, e, _ => by cases e
  | .val _ :: as, _, _, _, _, e, 0, _, _, h, hf, s, q, q' => by
    obtain ⟨d, ds', v, vs', L1, L2, rfl, rfl, rfl, h1, h2⟩ := h
    obtain ⟨r, hr, rfl⟩ := Option.map_eq_some_iff.mp (show (fillA as ds' e).map (d :: ·) = _ from hf)
    cases q'
    exact ⟨v, rfl, (h1.tmp zn).1.same (s L1 fun a ha => List.mem_append_left _ ha)⟩
  | .val _ :: as, _, _, _, _, e, i + 1, _, _, h, hf, s, q, q' => by
    obtain ⟨d, ds', v, vs', L1, L2, rfl, rfl, rfl, h1, h2⟩ := h
    obtain ⟨r, hr, rfl⟩ := Option.map_eq_some_iff.mp (show (fillA as ds' e).map (d :: ·) = _ from hf)
    exact VC.val (i := i) zn h2 hr (fun M hM => s M fun a ha => List.mem_append_right _ (hM a ha)) q q'
  | .slt _ :: as, _, _, _, _, _, 0, _, _, _, _, _, q, _ => by cases q
  | .slt j :: as, _, _, _, _, e, i + 1, _, _, h, hf, s, q, q' => by
    obtain ⟨d, ds', v, vs', rfl, rfl, e3, h2⟩ := h
    unfold fillA at hf
    split at hf
    · obtain ⟨r, hr, rfl⟩ := Option.map_eq_some_iff.mp hf
      exact VC.val (i := i) zn h2 hr s q q'
    · cases hf
theorem VC.foot (zn : ∀ i, ∀ a ∈ w.Ls i, w.Z a = none) : ∀ {as : List Ac} {ds : List D} {vs : List V} {L : List Addr}, VC G w σ as ds vs L → ∀ a ∈ L, w.Z a = none ∧ w.H a ≠ none ∧ ((∃ j ∈ bsC as, a ∈ w.Ls j) ∨ ∀ j, a ∉ w.Ls j)
  | [], _, _, _, h, a, ha => by rw [h.2.2] at ha; cases ha
  | .val _ :: as, _, _, _, h, a, ha => by
    obtain ⟨d, ds', v, vs', L1, L2, rfl, rfl, rfl, h1, h2⟩ := h
    rcases List.mem_append.mp ha with z | z
    · obtain ⟨y1, y2, y3⟩ := (h1.tmp zn).2 a z
      exact ⟨y1, y2, y3.imp (fun ⟨j, hj, q⟩ => ⟨j, List.mem_append_left _ hj, q⟩) id⟩
    · obtain ⟨y1, y2, y3⟩ := VC.foot zn h2 a z
      exact ⟨y1, y2, y3.imp (fun ⟨j, hj, q⟩ => ⟨j, List.mem_append_right _ hj, q⟩) id⟩
  | .slt _ :: as, _, _, _, h, a, ha => by
    obtain ⟨d, ds', v, vs', rfl, rfl, e3, h2⟩ := h
    obtain ⟨y1, y2, y3⟩ := VC.foot zn h2 a ha
    exact ⟨y1, y2, y3.imp (fun ⟨j, hj, q⟩ => ⟨j, List.mem_append_right _ hj, q⟩) id⟩
end
/-- below m levels there is no object -/
def leaf : Nat → D → Bool
  | 0, d => flatD d
  | m + 1, .lst ds => ds.all (leaf m)
  | m + 1, .tup ds => ds.all (leaf m)
  | m + 1, .dct ks => ks.all fun p => leaf m p.2
  | m + 1, .dtt ks => ks.all fun p => leaf m p.2
  | m + 1, .obj _ fs => fs.all fun p => leaf m p.2
  | _ + 1, .scr _ => false
  | _ + 1, _ => true
theorem leaf_ow {K : PySem.W.Frag} {CA : Str → Addr} {Z Z' h : Hp} (ZZ : ∀ a xs, Z a = some (.tup xs) → Z' a = some (.tup xs)) : ∀ {m : Nat} {d : D} {v : V} {L : List Addr}, leaf m d = true → Ow K CA Z h m d v L → Ow K CA Z' h m d v L := by
  intro m
  induction m with
  | zero =>
    intro d v L f q
    obtain ⟨u, hu⟩ := flat_av (show flatD d = true from f)
    cases av_eq hu q.2
    exact ⟨q.1, av_fz hu⟩
  | succ m ih =>
    intro d v L f q
    cases d with
    | lst ds =>
      obtain ⟨a, xs, L', e, q1, q2, e2, q3⟩ := q
      exact ⟨a, xs, L', e, q1, q2, e2, q3.imp fun d v l hd r _ => ih (List.all_eq_true.mp (show ds.all (leaf m) = true from f) d hd) r⟩
    | tup ds =>
      obtain ⟨a, xs, e, q1, q2, q3⟩ := q
      exact ⟨a, xs, e, ZZ _ _ q1, q2, q3.imp fun d v l hd r _ => ih (List.all_eq_true.mp (show ds.all (leaf m) = true from f) d hd) r⟩
    | dct ds =>
      obtain ⟨a, xs, L', e, q1, q2, e2, q3⟩ := q
      exact ⟨a, xs, L', e, q1, q2, e2, q3.imp fun d v l hd r _ => ⟨r.1, ih (List.all_eq_true.mp (show (ds.all fun p => leaf m p.2) = true from f) d hd) r.2⟩⟩
    | dtt ds =>
      obtain ⟨a, xs, L', e, q1, q2, e2, q3⟩ := q
      exact ⟨a, xs, L', e, q1, q2, e2, q3.imp fun d v l hd r _ => ⟨r.1, ih (List.all_eq_true.mp (show (ds.all fun p => leaf m p.2) = true from f) d hd) r.2⟩⟩
    | obj c ds =>
      obtain ⟨a, dx, xs, L', e, q1, q2, e2, q3⟩ := q
      exact ⟨a, dx, xs, L', e, q1, q2, e2, q3.imp fun d v l hd r _ => ⟨r.1, ih (List.all_eq_true.mp (show (ds.all fun p => leaf m p.2) = true from f) d hd) r.2⟩⟩
    | scr ns => cases f
    | non => obtain ⟨q1, q2⟩ := q; cases (show _ = _ from q2); exact ⟨q1, rfl⟩
    | bl b => obtain ⟨q1, q2⟩ := q; cases (show _ = _ from q2); exact ⟨q1, rfl⟩
    | int b => obtain ⟨q1, q2⟩ := q; cases (show _ = _ from q2); exact ⟨q1, rfl⟩
    | str b => obtain ⟨q1, q2⟩ := q; cases (show _ = _ from q2); exact ⟨q1, rfl⟩
end PD
namespace PD
open PySem PySem.Spec PyProof.Rows L2 GF
def ioLeaf : List Nat → List D → Bool
  | [], _ => true
  | m :: pm, ds => (decide (m = 0) || leaf m (ds.headD .non)) && ioLeaf pm ds.tail
theorem ioLeaf_at : ∀ {pm : List Nat} {ds : List D} {i : Nat}, ioLeaf pm ds = true → md pm i ≠ 0 → leaf (md pm i) (ds.getD i .non) = true
  | [], _, _, _, h => absurd rfl h
  | m :: pm, ds, 0, h, n => by
    obtain ⟨h, _⟩ := Bool.and_eq_true_iff.mp (show ((decide (m = 0) || leaf m (ds.headD .non)) && ioLeaf pm ds.tail) = true from h)
    rw [show ds.getD 0 .non = ds.headD .non by cases ds <;> rfl]
    rcases Bool.or_eq_true_iff.mp h with h | h
    · exact absurd (of_decide_eq_true h) n
    · exact h
  | m :: pm, ds, i + 1, h, n => by
    obtain ⟨_, h⟩ := Bool.and_eq_true_iff.mp (show ((decide (m = 0) || leaf m (ds.headD .non)) && ioLeaf pm ds.tail) = true from h)
    rw [show ds.getD (i + 1) .non = ds.tail.getD i .non by cases ds <;> rfl]
    exact ioLeaf_at (pm := pm) (i := i) h n
/-- f(..) -/
def dCall (F : FD) (as : List Ac) (sg : Sg) (b : Bool) (cs : DA) : DE := bnd cs fun ds env => match fillA as ds env with
  | none => none
  | some fs => match F fs with
    | none => none
    | some (r, ds') => if b = true ∨ (leaf sg.k r && ioLeaf sg.pm ds') = true then some (.ok r (backA as ds' env)) else none
section
variable {X : Cx} {G : Gc} {ms lk : List Nat} {k ka kb : Kd} {as : List Ac} {E Ea Eb : List Nat} {XE : XK} {pos p : Pos} {a b e : Expr} {es : List Expr} {ca cb : DE} {cs : DA}
/-- a heap without what the slots bs own -/
def cut (Z : Hp) (w : Wd) (bs : List Nat) : Hp := fun a => if bs.any (fun j => decide (a ∈ w.Ls j)) = true then none else Z a
theorem tCall_of {sg : Sg} {F : FD} {bb : Bool} (ok : okC ms lk sg.pm as = true) (nd : (sltC as).Nodup) (ds0 : ∀ j ∈ sltC as, j ∉ bsC as) (hb : bb = true → bsC as = []) {σ : L2.St} {H : Hp} {Q : VK} (h : tD G ms lk (.own sg.k) (Ea ++ sltC as) E0 (dCall F as sg bb cs) σ H Q) :
    tCall (spD G.K G.CA sg F) [] E0 (tC' G ms lk as Ea E0 cs) σ H Q := by
  obtain ⟨w, env, o, hH, R, ho, Fo⟩ := h
  rw [← hH]
  refine tC'.bindG (FF := fun w o => Fin G ms lk (.own sg.k) (Ea ++ sltC as) E0 w σ Q o) R ho Fo (fun w1 x F => F.step (x.mono fun j hj => List.mem_append_left _ hj)) (fun x e eo F w' p R' x' P => by subst eo; exact F w' p R' (x'.mono fun j hj => List.mem_append_left _ hj) P) fun w1 env1 ds vs L R1 x1 V1 n1 ho1 F1 => ?_
  rw [List.append_nil]
  cases ef : fillA as ds env1 with
  | none => rw [ef] at ho1; cases ho1
  | some fs =>
    rw [ef] at ho1
    dsimp only at ho1
    cases eF : F fs with
    | none => rw [eF] at ho1; cases ho1
    | some rr =>
      obtain ⟨r, ds'⟩ := rr
      rw [eF] at ho1
      dsimp only at ho1
      split at ho1
      · rename_i hleaf
        cases ho1
        have foot := V1.foot R1.zn
        have hlen := okC_len ok
        have Zs : Same w1.Z (pl w1.Z (unl w1.H) L) := pl_same fun a ha => (foot a ha).1
        -- what the callee's parameters own
        let Lc : Nat → List Addr := fun i => match as[i]? with
          | some (.slt j) => w1.Ls j
          | _ => []
        have Lc_slt : ∀ {i j : Nat}, as[i]? = some (.slt j) → Lc i = w1.Ls j := fun {i j} h => by show (match as[i]? with | some (.slt j) => w1.Ls j | _ => []) = _; rw [h]
        have Lc_mem : ∀ {i : Nat} {a : Addr}, a ∈ Lc i → ∃ j, as[i]? = some (.slt j) ∧ a ∈ w1.Ls j := fun {i a} h => by
          have h : a ∈ (match as[i]? with | some (.slt j) => w1.Ls j | _ => []) := h
          split at h
          · rename_i j hj; exact ⟨j, hj, h⟩
          · cases h
        -- an argument that is lent owns none of what the slots hand over
        have notL : ∀ {j : Nat} {a : Addr}, j ∈ sltC as → a ∈ w1.Ls j → a ∉ L := fun {j a} hj ha hL => by
          rcases (foot a hL).2.2 with ⟨l, hl, q⟩ | q
          · by_cases e : j = l
            · subst e; exact ds0 j hj hl
            · exact R1.dj j l e a ha q
          · exact q j ha
        have sub : ∀ M : List Addr, (∀ a ∈ M, a ∈ L) → Same (pl w1.Z (unl w1.H) M) (pl w1.Z (unl w1.H) L) := fun M hM a o e => by
          unfold pl at e ⊢
          by_cases hm : a ∈ M
          · rw [if_pos hm] at e; rw [if_pos (hM a hm)]; exact e
          · rw [if_neg hm] at e
            by_cases hl : a ∈ L
            · rw [(foot a hl).1] at e; cases e
            · rw [if_neg hl]; exact e
        have Rc : Rel (G0 G.K G.CA) sg.pm [] ⟨pl w1.Z (unl w1.H) L, w1.H, Lc⟩ (fs.map some) (vs.map some) := by
          refine ⟨pl_sub R1.sub, by rw [List.length_map, List.length_map, fill_len ef, V1.len], fun i d hd => ?_, fun i hi => ?_, fun i => ?_, fun i l hil a ha => ?_, fun i a ha => ?_, fun i _ a ha => ?_, (fun _ z => by cases z), fun a xs e => Zs a _ (R1.tz a xs e)⟩
          · rw [List.getElem?_map] at hd
            cases e1 : fs[i]? with
            | none => rw [e1] at hd; cases hd
            | some d0 =>
              rw [e1] at hd
              cases hd
              have hi : i < as.length := by rw [← fill_len ef]; exact (List.getElem?_eq_some_iff.mp e1).1
              cases e2 : as[i] with
              | val k =>
                have e3 : as[i]? = some (.val k) := by rw [List.getElem?_eq_getElem hi, e2]
                obtain ⟨v, hv, q⟩ := V1.val R1.zn ef sub e3 e1
                refine ⟨v, by rw [List.getElem?_map, hv]; rfl, ?_⟩
                rw [okC_val ok e3]
                refine ⟨?_, q⟩
                show (match as[i]? with | some (.slt j) => w1.Ls j | _ => []) = []
                rw [e3]
              | slt j =>
                have e3 : as[i]? = some (.slt j) := by rw [List.getElem?_eq_getElem hi, e2]
                obtain ⟨v, hv, hs⟩ := V1.slt e3
                obtain ⟨d1, hd1, hen⟩ := fill_slt ef e3
                rw [e1] at hd1
                cases hd1
                obtain ⟨v', hv', q⟩ := R1.slot j d hen
                rw [hs] at hv'
                cases hv'
                refine ⟨v, by rw [List.getElem?_map, hv]; rfl, ?_⟩
                rw [(okC_slt ok e3).2.1]
                show Ow _ _ _ _ _ _ _ (Lc i)
                rw [Lc_slt e3]
                exact q.frame Zs fun _ _ => rfl
          · show Lc i = []
            cases e1 : as[i]? with
            | none => show (match as[i]? with | some (.slt j) => w1.Ls j | _ => []) = []; rw [e1]
            | some c =>
              have hi' : i < fs.length := by rw [fill_len ef]; exact (List.getElem?_eq_some_iff.mp e1).1
              exact absurd (by rw [List.getElem?_map, List.getElem?_eq_getElem hi']; rfl) (hi fs[i])
          · show (Lc i).Nodup
            show (match as[i]? with | some (.slt j) => w1.Ls j | _ => []).Nodup
            split
            · exact R1.nd _
            · exact List.nodup_nil
          · intro hl
            obtain ⟨j, hj, q⟩ := Lc_mem ha
            obtain ⟨j2, hj2, q2⟩ := Lc_mem hl
            by_cases e : j = j2
            · subst e; exact hil (slt_inj nd hj hj2)
            · exact R1.dj j j2 e a q q2
          · obtain ⟨j, hj, q⟩ := Lc_mem ha
            show pl w1.Z (unl w1.H) L a = none
            unfold pl
            rw [if_neg (notL (slt_mem hj) q)]
            exact R1.zn j a q
          · obtain ⟨j, hj, q⟩ := Lc_mem ha
            exact R1.nl j (okC_slt ok hj).2.2 a q
        refine ⟨⟨pl w1.Z (unl w1.H) L, w1.H, Lc⟩, fs, r, ds', rfl, by rw [V1.len]; exact hlen, by rw [fill_len ef]; exact hlen, Rc, eF, fun w' v M R' xs' V' n' => ?_⟩
        have x' := xs'.x
        -- the caller's state behind the call
        let Z2 : Hp := cut w'.Z w1 (bsC as)
        let L2' : Nat → List Addr := fun j => if j ∈ sltC as then w'.Ls (idxC as j) else w1.Ls j
        have ios_of : ∀ {i j : Nat}, as[i]? = some (.slt j) → i ∈ sg.ios := fun {i j} h => Sg.mem_ios.mpr ⟨Nat.lt_of_lt_of_eq (List.getElem?_eq_some_iff.mp h).1 hlen, (okC_slt ok h).1⟩
        have of_ios : ∀ {i : Nat}, i ∈ sg.ios → ∃ j, as[i]? = some (.slt j) := fun {i} h => by
          obtain ⟨h1, h2⟩ := Sg.mem_ios.mp h
          have hi : i < as.length := Nat.lt_of_lt_of_eq h1 hlen.symm
          cases e2 : as[i] with
          | val k => exact absurd (okC_val ok (by rw [List.getElem?_eq_getElem hi, e2])) h2
          | slt j => exact ⟨j, by rw [List.getElem?_eq_getElem hi, e2]⟩
        have lent : ∀ {a : Addr}, (bsC as).any (fun j => decide (a ∈ w1.Ls j)) = true → ∃ j ∈ bsC as, a ∈ w1.Ls j := fun {a} h => by
          obtain ⟨j, hj, q⟩ := List.any_eq_true.mp h
          exact ⟨j, hj, of_decide_eq_true q⟩
        have Z2_of : ∀ {a : Addr}, (∀ j ∈ bsC as, a ∉ w1.Ls j) → Z2 a = w'.Z a := fun {a} h => by
          show (if _ then none else w'.Z a) = _
          rw [if_neg fun z => by obtain ⟨j, hj, q⟩ := lent z; exact h j hj q]
        have Z2_sub : Same Z2 w'.Z := fun a o e => by
          have e : (if (bsC as).any (fun j => decide (a ∈ w1.Ls j)) = true then none else w'.Z a) = some o := e
          split at e
          · cases e
          · exact e
        have Z12 : Same w1.Z Z2 := fun a o e => by
          rw [Z2_of fun j _ z => by rw [R1.zn j a z] at e; cases e]
          exact x'.zz a o (Zs a o e)
        have hL : ∀ {a : Addr} {j : Nat}, a ∈ w1.Ls j → j ∉ sltC as → w'.H a = w1.H a := fun {a j} ha hj => by
          cases e : w1.H a with
          | none => exact absurd e (R1.there ha)
          | some o =>
            refine xs'.st a o e fun i hi q => ?_
            obtain ⟨j2, hj2, q2⟩ := Lc_mem q
            by_cases e2 : j = j2
            · subst e2; exact hj (slt_mem hj2)
            · exact R1.dj j j2 e2 a ha q2
        have zfree : ∀ {a : Addr} {j : Nat}, a ∈ w1.Ls j → j ∉ sltC as → Z2 a = none := fun {a j} ha hj => by
          by_cases hb' : ∃ l ∈ bsC as, a ∈ w1.Ls l
          · show (if _ then none else w'.Z a) = none
            obtain ⟨l, hl, q⟩ := hb'
            rw [if_pos (List.any_eq_true.mpr ⟨l, hl, decide_eq_true q⟩)]
          · rw [Z2_of fun l hl q => hb' ⟨l, hl, q⟩]
            cases e : w'.Z a with
            | none => rfl
            | some o =>
              have za : pl w1.Z (unl w1.H) L a = none := by
                unfold pl
                rw [if_neg fun hm => by
                  rcases (foot a hm).2.2 with z | z
                  · exact hb' z
                  · exact z j ha]
                exact R1.zn j a ha
              obtain ⟨i, hi, q⟩ := x'.zn a (by rw [e]; simp) za (R1.there ha)
              obtain ⟨j2, hj2, q2⟩ := Lc_mem q
              by_cases e2 : j = j2
              · subst e2; exact absurd (slt_mem hj2) hj
              · exact absurd q2 (R1.dj j j2 e2 a ha)
        -- what the slots that were handed over own now
        have back : ∀ {i j : Nat} {a : Addr}, as[i]? = some (.slt j) → a ∈ w'.Ls i → w1.H a ≠ none → ∃ j2 ∈ sltC as, a ∈ w1.Ls j2 := fun {i j a} h ha hn => by
          obtain ⟨i2, hi2, q⟩ := x'.ln i (ios_of h) a ha hn
          obtain ⟨j2, hj2, q2⟩ := Lc_mem q
          exact ⟨j2, slt_mem hj2, q2⟩
        have apart : ∀ {i j j' : Nat} {a : Addr}, as[i]? = some (.slt j) → a ∈ w'.Ls i → j' ∉ sltC as → a ∉ w1.Ls j' := fun {i j j' a} h ha hj' q => by
          obtain ⟨j2, hj2, q2⟩ := back h ha (R1.there q)
          by_cases e : j' = j2
          · subst e; exact hj' hj2
          · exact R1.dj j' j2 e a q q2
        have notLent : ∀ {i j : Nat} {a : Addr}, as[i]? = some (.slt j) → a ∈ w'.Ls i → ∀ l ∈ bsC as, a ∉ w1.Ls l := fun {i j a} h ha l hl q => apart h ha (fun z => ds0 l z hl) q
        have outEq : ∀ {i j : Nat}, as[i]? = some (.slt j) → (outE sg ds')[i]? = some (some (ds'.getD i .non)) := fun {i j} h => by
          have h1 := Sg.mem_ios.mp (ios_of h)
          unfold outE
          rw [List.getElem?_map, List.getElem?_eq_getElem (by rw [List.length_range]; exact h1.1), List.getElem_range]
          show some (if md sg.pm i = 0 then none else _) = _
          rw [if_neg h1.2]
        have Lf : ∀ {i j : Nat}, as[i]? = some (.slt j) → L2' j = w'.Ls i := fun {i j} h => by
          show (if j ∈ sltC as then w'.Ls (idxC as j) else w1.Ls j) = _
          rw [if_pos (slt_mem h), slt_inj nd (mem_slt (slt_mem h)) h]
        have Ln : ∀ {j : Nat}, j ∉ sltC as → L2' j = w1.Ls j := fun {j} h => if_neg h
        have tupZ : ∀ a xs, w'.Z a = some (.tup xs) → Z2 a = some (.tup xs) := fun a xs e => by
          rw [Z2_of fun j hj ha => by
              have h := hL ha fun z => ds0 j z hj
              rw [unl_tup (R'.sub a _ e)] at h
              have := R1.tz a xs h.symm
              rw [R1.zn j a ha] at this
              cases this]
          exact e
        have R2 : Rel G ms lk ⟨Z2, w'.H, L2'⟩ (backA as ds' env1) σ := by
          refine ⟨fun a o e => R'.sub a o (Z2_sub a o e), by rw [back_len]; exact R1.len, fun j d hd => ?_, fun j hj => ?_, fun j => ?_, fun j l hjl a ha => ?_, fun j a ha => ?_, fun j hj a ha => ?_, R1.pin, fun a xs e => ?_⟩
          · by_cases hs : j ∈ sltC as
            · have hi := mem_slt hs
              obtain ⟨v0, hv0, hs0⟩ := V1.slt hi
              have hlt : j < env1.length := by rw [R1.len]; exact (List.getElem?_eq_some_iff.mp hs0).1
              rw [back_in hi nd hlt] at hd
              cases hd
              obtain ⟨v1, hv1, q⟩ := R'.slot _ _ (outEq hi)
              rw [List.getElem?_map, hv0] at hv1
              cases hv1
              refine ⟨v0, hs0, ?_⟩
              show Ow _ _ _ _ _ _ _ (L2' j)
              rw [Lf hi, ← (okC_slt ok hi).2.1]
              rcases hleaf with hbb | hleaf
              · have e : Z2 = w'.Z := by
                  funext a
                  exact Z2_of fun l hl => by rw [hb hbb] at hl; cases hl
                show Ow G.K G.CA Z2 (unl w'.H) _ _ _ _
                rw [e]
                exact q
              · exact leaf_ow tupZ (ioLeaf_at (Bool.and_eq_true_iff.mp hleaf).2 (okC_slt ok hi).1) q
            · rw [back_out hs] at hd
              obtain ⟨v0, hv0, q⟩ := R1.slot j d hd
              refine ⟨v0, hv0, ?_⟩
              show Ow _ _ _ _ _ _ _ (L2' j)
              rw [Ln hs]
              exact q.frame Z12 fun a ha => unl_eq (hL ha hs)
          · by_cases hs : j ∈ sltC as
            · have hi := mem_slt hs
              obtain ⟨v0, hv0, hs0⟩ := V1.slt hi
              have hlt : j < env1.length := by rw [R1.len]; exact (List.getElem?_eq_some_iff.mp hs0).1
              exact absurd (back_in hi nd hlt) (hj _)
            · show L2' j = []
              rw [Ln hs]
              exact R1.emp j fun d z => hj d (by rw [back_out hs]; exact z)
          · show (L2' j).Nodup
            by_cases hs : j ∈ sltC as
            · rw [Lf (mem_slt hs)]; exact R'.nd _
            · rw [Ln hs]; exact R1.nd j
          · have ha : a ∈ L2' j := ha
            show a ∉ L2' l
            by_cases hs : j ∈ sltC as
            · rw [Lf (mem_slt hs)] at ha
              by_cases hs2 : l ∈ sltC as
              · rw [Lf (mem_slt hs2)]
                refine R'.dj _ _ (fun e => hjl ?_) a ha
                have h1 := mem_slt hs
                rw [e, mem_slt hs2] at h1
                cases h1
                rfl
              · rw [Ln hs2]
                exact apart (mem_slt hs) ha hs2
            · rw [Ln hs] at ha
              by_cases hs2 : l ∈ sltC as
              · rw [Lf (mem_slt hs2)]
                exact fun z => apart (mem_slt hs2) z hs ha
              · rw [Ln hs2]
                exact R1.dj j l hjl a ha
          · have ha : a ∈ L2' j := ha
            show Z2 a = none
            by_cases hs : j ∈ sltC as
            · rw [Lf (mem_slt hs)] at ha
              have := R'.zn _ a ha
              cases e : Z2 a with
              | none => rfl
              | some o => rw [Z2_sub a o e] at this; cases this
            · rw [Ln hs] at ha
              exact zfree ha hs
          · have ha : a ∈ L2' j := ha
            by_cases hs : j ∈ sltC as
            · rw [Lf (mem_slt hs)] at ha
              exact R'.nl _ (by simp) a ha
            · rw [Ln hs] at ha
              show unl w'.H a = w'.H a
              rw [unl_eq (hL ha hs), hL ha hs]
              exact R1.nl j hj a ha
          · have e : w'.H a = some (.tup xs) := e
            exact tupZ a xs (R'.tz a xs e)
        have wback : ∀ {j : Nat} {a : Addr}, a ∈ w1.Ls j → j ∈ Ea ++ sltC as → w.H a ≠ none → ∃ i ∈ Ea ++ sltC as, a ∈ w.Ls i := fun {j a} ha hj hn => by
          obtain ⟨i, q, hi⟩ := x1.back ha hn
          rcases hi with rfl | hi
          · exact ⟨i, hj, q⟩
          · exact ⟨i, List.mem_append_left _ hi, q⟩
        have X2 : Ext (Ea ++ sltC as) w ⟨Z2, w'.H, L2'⟩ := by
          refine ⟨fun a o e => Z12 a o (x1.zz a o e), fun a o e n => ?_, fun a z1 z2 z3 => ?_, fun j hj => (Ln fun z => hj (List.mem_append_right _ z)).trans (x1.ll j fun z => hj (List.mem_append_left _ z)), fun j hj a ha hn => ?_, fun a h => x'.al a (x1.al a h)⟩
          · have n3 : ∀ i ∈ sg.ios, a ∉ Lc i := fun i hi q => by
              obtain ⟨j, hj, q2⟩ := Lc_mem q
              obtain ⟨i2, hi2, q3⟩ := wback q2 (List.mem_append_right _ (slt_mem hj)) (by rw [e]; simp)
              exact n i2 hi2 q3
            rcases x1.hh a o e fun j hj => n j (List.mem_append_left _ hj) with h | ⟨h1, h2, od, h3⟩
            · exact .inl (xs'.st a o h n3)
            · exact .inr ⟨h1, h2, od, xs'.st a _ h3 n3⟩
          · have z1 : Z2 a ≠ none := z1
            have z1' : w'.Z a ≠ none := fun z => z1 (by
              cases e : Z2 a with
              | none => rfl
              | some o => rw [Z2_sub a o e] at z; cases z)
            by_cases hz : w1.Z a = none
            · by_cases hm : a ∈ L
              · obtain ⟨j, hj, q⟩ := n1 a hm z3
                by_cases hE : j ∈ Ea
                · exact ⟨j, List.mem_append_left _ hE, q⟩
                · have hb' := hj.resolve_left hE
                  refine absurd ?_ z1
                  show (if _ then none else w'.Z a) = none
                  rw [if_pos (List.any_eq_true.mpr ⟨j, hb', decide_eq_true (by rw [x1.ll j hE]; exact q)⟩)]
              · have : pl w1.Z (unl w1.H) L a = none := by unfold pl; rw [if_neg hm]; exact hz
                obtain ⟨i, hi, q⟩ := x'.zn a z1' this (x1.al a z3)
                obtain ⟨j, hj, q2⟩ := Lc_mem q
                exact wback q2 (List.mem_append_right _ (slt_mem hj)) z3
            · obtain ⟨j, hj, q⟩ := x1.zn a hz z2 z3
              exact ⟨j, List.mem_append_left _ hj, q⟩
          · have ha : a ∈ L2' j := ha
            by_cases hs : j ∈ sltC as
            · rw [Lf (mem_slt hs)] at ha
              obtain ⟨j2, hj2, q⟩ := back (mem_slt hs) ha (x1.al a hn)
              exact wback q (List.mem_append_right _ hj2) hn
            · rw [Ln hs] at ha
              exact wback ha hj hn
        have nM : ∀ a ∈ M, w1.H a ≠ none → ∃ j ∈ sltC as, a ∈ w1.Ls j := fun a ha hn => by
          obtain ⟨i, hi, q⟩ := n' a ha hn
          rcases hi with hi | hi
          · obtain ⟨j, hj, q2⟩ := Lc_mem q
            exact ⟨j, slt_mem hj, q2⟩
          · cases hi
        refine Fo ⟨Z2, w'.H, L2'⟩ v M R2 X2 ⟨?_, V'.2.1, fun a ha => ⟨?_, fun j hj => ?_, (V'.2.2 a ha).2.2⟩⟩ fun a ha hn => ?_
        · rcases hleaf with hbb | hleaf
          · have e : Z2 = w'.Z := by
              funext a
              exact Z2_of fun l hl => by rw [hb hbb] at hl; cases hl
            show Ow G.K G.CA Z2 (unl w'.H) _ _ _ _
            rw [e]
            exact V'.1
          · exact leaf_ow tupZ (Bool.and_eq_true_iff.mp hleaf).1 V'.1
        · have := (V'.2.2 a ha).1
          show Z2 a = none
          cases e : Z2 a with
          | none => rfl
          | some o => rw [Z2_sub a o e] at this; cases this
        · have hj : a ∈ L2' j := hj
          by_cases hs : j ∈ sltC as
          · rw [Lf (mem_slt hs)] at hj
            exact (V'.2.2 a ha).2.1 _ hj
          · rw [Ln hs] at hj
            obtain ⟨j2, hj2, q⟩ := nM a ha (R1.there hj)
            by_cases e : j = j2
            · subst e; exact hs hj2
            · exact R1.dj j j2 e a hj q
        · obtain ⟨j2, hj2, q⟩ := nM a ha (x1.al a hn)
          obtain ⟨i, hi, q3⟩ := wback q (List.mem_append_right _ hj2) hn
          exact ⟨i, .inl hi, q3⟩
      · cases ho1
variable {f : Addr} {fd : FuncData} {ps : List Str} {x : Str} {kl : Nat}
theorem se_call {sg : Sg} {F : FD} {bb : Bool} (FG : FnG X.prog X.w X.K X.mg X.base kl f fd ps (spD G.K G.CA sg F)) (hg0 : X.A.guards = some []) (hr : Room kl X.A) (hg : Gl X x) (hm : X.mg x = some (.ref f)) (hk : PySem.W.keepIn X.K (.ref f) = true) (hb : Binds X.K fd ps [])
    (ha : PA X (e :: es) (tC' G ms lk as Ea E0 cs)) (ok : okC ms lk sg.pm as = true := by decide) (nd : (sltC as).Nodup := by decide) (ds0 : ∀ j ∈ sltC as, j ∉ bsC as := by decide) (hbb : bb = true → bsC as = [] := by first | (intro _; rfl) | (intro h; cases h))
    (hdb : (x == ("__debug__" : Str)) = false := by decide) (he : starEach (e :: es) X.env = (false, eval e X.env) :: starEach es X.env := by rfl) (hpl : (backTo pos (starEach es X.env)).any (·.1) = false := by rfl) :
    PE X (.Call (.Name x p) (e :: es) [] pos) (tD G ms lk (.own sg.k) (Ea ++ sltC as) E0 (dCall F as sg bb cs)) := PE.weak (pe_callG FG hg0 hr hg hm hk hb ha hdb he hpl) fun _ _ _ h => tCall_of ok nd ds0 hbb h
end
end PD
namespace PD
open PySem PySem.Spec PyProof.Rows L2 GF
/-! ### what is walked; for -/
/-- the walk J gives the items, whatever else changes -/
def IterOk (G : Gc) (bs : List Nat) (w0 : Wd) (J : It) (items : List D) : Prop := ∀ E' wi, Ext E' w0 wi → (∀ j ∈ bs, j ∉ E') → Same wi.Z (unl wi.H) → (∀ a xs, wi.H a = some (.tup xs) → wi.Z a = some (.tup xs)) →
  (∀ i, i < items.length → J.go i wi.H) ∧ J.stop items.length wi.H ∧ ∀ (i : Nat) (d : D) x H', items[i]? = some d → J.yld i wi.H x H' →
    (H' = wi.H ∧ Fz G.K G.CA wi.Z d x) ∨ ∃ T xs ds, d = .tup ds ∧ x = .ref T ∧ wi.H T = none ∧ H' = upd wi.H T (.tup xs) ∧ FzA G.K G.CA wi.Z ds xs ∧ ds.length ≤ sizeLine
def tI (G : Gc) (ms lk bs E : List Nat) (XE : XK) (c : DA) : TI := fun σ H Rr => ∃ w env o, w.H = H ∧ Rel G ms lk w env σ ∧ c env = some o ∧ match o with
  | .ok items env' => ∀ w' J, Rel G ms lk w' env' σ → Ext E w w' → IterOk G bs w' J items → Rr J w'.H
  | .ex x env' => ∀ w' p, Rel G ms lk w' env' σ → Ext E w w' → Pay G w' x p → XE (.ref (G.CA x.c)) p w'.H
/-- a target: a name, a tuple of names -/
inductive Tg where
  | nm (i : Nat)
  | tp (is : List Nat)
  | nt (i : Nat) (is : List Nat)
  | tn (is : List Nat) (i : Nat)
def Tg.sl : Tg → List Nat
  | .nm i => [i]
  | .tp is => is
  | .nt i is => i :: is
  | .tn is i => is ++ [i]
def setL : List Nat → List D → Ev → Ev
  | i :: is, d :: ds, e => setL is ds (e.set i (some d))
  | _, _, e => e
def asgT : Tg → D → Ev → Option Ev
  | .nm i, d, e => some (e.set i (some d))
  | .tp is, .tup ds, e => if ds.length = is.length then some (setL is ds e) else none
  | .nt i is, .tup [d, .tup ds], e => if ds.length = is.length then some (setL (i :: is) (d :: ds) e) else none
  | .tn is i, .tup [.tup ds, d], e => if ds.length = is.length then some (setL (is ++ [i]) (ds ++ [d]) e) else none
  | _, _, _ => none
section
variable {X : Cx} {K : PySem.W.Frag} {G : Gc} {ms lk ms' : List Nat} {k ka kb : Kd} {bs E E1 Ea Eb : List Nat} {R : Rt} {XE : XK} {pos p : Pos} {a b e tg iter : Expr} {es : List Expr} {ca cb : DE} {cs : DA} {c : DS} {body : List Stmt} {Dn : Ends}
/-- what a target's reading asks -/
structure TgS (K : PySem.W.Frag) (t : Tg) (g : TG) : Prop where
  one : ∀ i, t = .nm i → g = gName i
  many : ∀ is, t = .tp is → ∀ (xs : List V) a σ H Q, SqT K H a xs → xs.length = is.length → Q ((is.zip xs).foldl (fun s q => s.set q.1 (some q.2)) σ) H → g (.ref a) σ H Q
  nest1 : ∀ i is, t = .nt i is → ∀ (x : V) (b : Addr) (ys : List V) a σ H Q, SqT K H a [x, .ref b] → SqT K H b ys → ys.length = is.length → Q (((i :: is).zip (x :: ys)).foldl (fun s q => s.set q.1 (some q.2)) σ) H → g (.ref a) σ H Q
  nest2 : ∀ is i, t = .tn is i → ∀ (x : V) (b : Addr) (ys : List V) a σ H Q, SqT K H a [.ref b, x] → SqT K H b ys → ys.length = is.length → Q (((is ++ [i]).zip (ys ++ [x])).foldl (fun s q => s.set q.1 (some q.2)) σ) H → g (.ref a) σ H Q
theorem tg_name {i : Nat} : TgS K (.nm i) (gName i) := ⟨fun _ e => (by cases e; rfl), fun _ e => (by cases e), fun _ _ e => (by cases e), fun _ _ e => (by cases e)⟩
/-- the names of a tuple, by their slots -/
def SemN (is : List Nat) (t : TGs) : Prop := ∀ (xs : List V) σ H Q, xs.length = is.length → Q ((is.zip xs).foldl (fun s q => s.set q.1 (some q.2)) σ) H → t xs σ H Q
theorem semN_nil : SemN [] gNil := fun xs σ H Q hl q => ⟨List.length_eq_zero_iff.mp hl, by rw [List.length_eq_zero_iff.mp hl] at q; exact q⟩
theorem semN_cons {i : Nat} {is : List Nat} {t : TGs} (h : SemN is t) : SemN (i :: is) (gCons (gName i) t) := fun xs σ H Q hl q => by
  cases xs with
  | nil => cases hl
  | cons x r => exact ⟨x, r, rfl, h r _ H Q (by simpa using hl) q⟩
theorem tg_tup {is : List Nat} {t : TGs} {n : Nat} (h : SemN is t) (hn : n = is.length := by rfl) : TgS K (.tp is) (L2.gTup K n t) :=
  ⟨fun _ e => (by cases e), fun is' e xs a σ H Q hs hl q => (by
    cases e
    exact ⟨a, xs, rfl, hs, by rw [hl, hn], h xs σ H Q hl q⟩), fun _ _ e => (by cases e), fun _ _ e => (by cases e)⟩
theorem tg_nt {i : Nat} {is : List Nat} {t : TGs} {n : Nat} (h : SemN is t) (hn : n = is.length := by rfl) : TgS K (.nt i is) (L2.gTup K 2 (gCons (gName i) (gCons (L2.gTup K n t) gNil))) :=
  ⟨fun _ e => (by cases e), fun _ e => (by cases e), fun i' is' e x b ys a σ H Q hs hb hl q => (by
    cases e
    exact ⟨a, [x, .ref b], rfl, hs, rfl, x, [.ref b], rfl, .ref b, [], rfl, b, ys, rfl, hb, by rw [hl, hn], h ys _ H _ hl ⟨rfl, q⟩⟩), fun _ _ e => (by cases e)⟩
theorem zip_snoc : ∀ {is : List Nat} {ys : List V} {i : Nat} {x : V}, ys.length = is.length → (is ++ [i]).zip (ys ++ [x]) = is.zip ys ++ [(i, x)]
  | [], [], _, _, _ => rfl
  | [], _ :: _, _, _, h => by cases h
  | _ :: _, [], _, _, h => by cases h
  | j :: is, y :: ys, i, x, h => by
    rw [List.cons_append, List.cons_append, List.zip_cons_cons, List.zip_cons_cons, zip_snoc (by simpa using h)]
    rfl
theorem tg_tn {i : Nat} {is : List Nat} {t : TGs} {n : Nat} (h : SemN is t) (hn : n = is.length := by rfl) : TgS K (.tn is i) (L2.gTup K 2 (gCons (L2.gTup K n t) (gCons (gName i) gNil))) :=
  ⟨fun _ e => (by cases e), fun _ e => (by cases e), fun _ _ e => (by cases e), fun is' i' e x b ys a σ H Q hs hb hl q => (by
    cases e
    refine ⟨a, [.ref b, x], rfl, hs, rfl, .ref b, [x], rfl, b, ys, rfl, hb, by rw [hl, hn], h ys σ H _ hl ⟨x, [], rfl, rfl, ?_⟩⟩
    rw [zip_snoc hl, List.foldl_append] at q
    exact q)⟩
/-- many slots get frozen values -/
theorem Rel.puts : ∀ {is : List Nat} {ds : List D} {xs : List V} {w : Wd} {env : Ev} {σ : L2.St}, Rel G ms lk w env σ → FzA G.K G.CA w.Z ds xs → (∀ i ∈ is, i < ms.length ∧ ms.set i 0 = ms ∧ i ∉ G.pins) → Ext is w w ∧ ds.length = is.length →
    ∃ w', Rel G ms lk w' (setL is ds env) ((is.zip xs).foldl (fun s q => s.set q.1 (some q.2)) σ) ∧ Ext is w w' ∧ w'.H = w.H ∧ w'.Z = w.Z
  | [], [], _, w, _, _, Rl, h, _, _ => by cases (show _ = _ from h); exact ⟨w, Rl, .refl, rfl, rfl⟩
  | [], _ :: _, _, _, _, _, _, _, _, h => by cases h.2
  | _ :: _, [], _, _, _, _, _, _, _, h => by cases h.2
  | i :: is, d :: ds, xs, w, env, σ, Rl, h, hi, hl => by
    obtain ⟨v, r, rfl, h1, h2⟩ := h
    obtain ⟨i1, i2, i3⟩ := hi i List.mem_cons_self
    have R1 := Rl.put (i := i) (m := 0) (d := d) (v := v) (L := []) ⟨⟨rfl, h1⟩, List.nodup_nil, fun _ z => by cases z⟩ i1 i3
    rw [i2] at R1
    obtain ⟨w', q1, q2, q3, q4⟩ := Rel.puts (is := is) (ds := ds) (xs := r) R1 h2 (fun j hj => hi j (List.mem_cons_of_mem _ hj)) ⟨.refl, by simpa using hl.2⟩
    refine ⟨w', q1, ?_, q3, q4⟩
    refine Ext.trans (E := i :: is) (w1 := ⟨w.Z, w.H, fun j => if j = i then (if i < env.length then [] else []) else w.Ls j⟩) ⟨fun _ _ z => z, fun _ _ z _ => .inl z, fun _ z1 z2 => absurd z2 z1, fun j hj => if_neg fun z => hj (by rw [z]; exact List.mem_cons_self), fun j hj a ha hn => ?_, fun _ z => z⟩ (q2.mono fun j hj => List.mem_cons_of_mem _ hj)
    have ha : a ∈ (if j = i then (if i < env.length then ([] : List Addr) else []) else w.Ls j) := ha
    split at ha
    · split at ha <;> cases ha
    · exact ⟨j, hj, ha⟩
/-- an item goes to its target -/
theorem asg_of {t : Tg} {g : TG} (T : TgS G.K t g) {w : Wd} {env env1 : Ev} {σ : L2.St} {H' : Hp} {x : V} {d : D} {Q : L2.St → Hp → Prop} (Rl : Rel G ms lk w env σ) (hs : ∀ i ∈ t.sl, i < ms.length ∧ ms.set i 0 = ms ∧ i ∉ G.pins) (ha : asgT t d env = some env1)
    (hx : (H' = w.H ∧ Fz G.K G.CA w.Z d x) ∨ ∃ T xs ds, d = .tup ds ∧ x = .ref T ∧ w.H T = none ∧ H' = upd w.H T (.tup xs) ∧ FzA G.K G.CA w.Z ds xs ∧ ds.length ≤ sizeLine)
    (q : ∀ w' σ', Rel G ms lk w' env1 σ' → Ext t.sl w w' → (∀ i, i ∉ t.sl → σ'[i]? = σ[i]?) → Q σ' w'.H) : g x σ H' Q := by
  have out : ∀ (is : List Nat) (xs : List V) (s : L2.St) (i : Nat), i ∉ is → ((is.zip xs).foldl (fun s q => s.set q.1 (some q.2)) s)[i]? = s[i]? := by
    intro is
    induction is with
    | nil => intro xs s i _; rfl
    | cons j is ih =>
      intro xs s i hi
      cases xs with
      | nil => rfl
      | cons x xs =>
        show ((is.zip xs).foldl _ (s.set j (some x)))[i]? = _
        rw [ih xs _ i fun z => hi (List.mem_cons_of_mem _ z), List.getElem?_set_ne fun z => hi (by rw [z]; exact List.mem_cons_self)]
  cases t with
  | nm i =>
    cases ha
    rw [T.one i rfl]
    obtain ⟨i1, i2, i3⟩ := hs i (by simp [Tg.sl])
    have main : ∀ (w1 : Wd), Rel G ms lk w1 env σ → Ext [] w w1 → ValR G w1 d x [] (.own 0) → Q (σ.set i (some x)) w1.H := fun w1 R1 x1 V => by
      have R2 := R1.put (i := i) (m := 0) V i1 i3
      rw [i2] at R2
      exact q ⟨w1.Z, w1.H, fun j => if j = i then (if i < env.length then [] else []) else w1.Ls j⟩ _ R2 ((x1.mono fun _ z => by cases z).trans ⟨fun _ _ z => z, fun _ _ z _ => .inl z, fun _ z1 z2 => absurd z2 z1, fun j hj => if_neg fun z => hj (by rw [z]; simp [Tg.sl]), fun j hj a ha hn => (by
        have ha : a ∈ (if j = i then (if i < env.length then ([] : List Addr) else []) else w1.Ls j) := ha
        split at ha
        · split at ha <;> cases ha
        · exact ⟨j, hj, ha⟩), fun _ z => z⟩) fun j hj => List.getElem?_set_ne fun z => hj (by rw [z]; simp [Tg.sl])
    rcases hx with ⟨e, f⟩ | ⟨T0, xs, ds, rfl, rfl, hT, e, f, hl⟩
    · have := main w Rl .refl ⟨⟨rfl, f⟩, List.nodup_nil, fun _ z => by cases z⟩
      rw [e]; exact this
    · -- a new pair, frozen
      have zq := Rl.zn0 hT
      have zs : Same w.Z (upd w.Z T0 (.tup xs)) := fun a u e => by rw [upd_ne fun z => by rw [z, zq] at e; cases e]; exact e
      have := main ⟨upd w.Z T0 (.tup xs), upd w.H T0 (.tup xs), w.Ls⟩ (Rl.allocT hT) (Ext.allocT hT zq) ⟨⟨rfl, T0, xs, rfl, upd_same, hl, f.same zs⟩, List.nodup_nil, fun _ z => by cases z⟩
      rw [e]; exact this
  | tp is =>
    unfold asgT at ha
    cases d with
    | tup ds =>
      dsimp only at ha
      split at ha
      · rename_i hlen
        cases ha
        rcases hx with ⟨e, a0, xs, rfl, h1, h2, h3⟩ | ⟨T0, xs, ds', h0, rfl, hT, e, f, hl⟩
        · obtain ⟨w', q1, q2, q3, q4⟩ := Rl.puts h3 hs ⟨.refl, hlen⟩
          refine T.many is rfl xs a0 σ H' Q ?_ (by rw [h3.len, hlen]) ?_
          · rw [e]; exact .inl (.inl (unl_tup (Rl.sub _ _ h1)))
          · rw [e, ← q3]; exact q w' _ q1 q2 fun i hi => out is xs σ i hi
        · cases h0
          have zq := Rl.zn0 hT
          have zs : Same w.Z (upd w.Z T0 (.tup xs)) := fun a u e => by rw [upd_ne fun z => by rw [z, zq] at e; cases e]; exact e
          have R1 := Rl.allocT (q := T0) (xs := xs) hT
          obtain ⟨w', q1, q2, q3, q4⟩ := R1.puts (f.same zs) hs ⟨.refl, hlen⟩
          refine T.many is rfl xs T0 σ H' Q ?_ (by rw [f.len, hlen]) ?_
          · rw [e]; exact .inl (.inl upd_same)
          · rw [e]
            have := q w' _ q1 ((Ext.allocT hT zq).trans q2) fun i hi => out is xs σ i hi
            rw [q3] at this
            exact this
      · cases ha
    | _ => cases ha
  | nt i is =>
    have two : ∀ {Z : Hp} {xs : List V} {d1 : D} {ds : List D}, FzA G.K G.CA Z [d1, .tup ds] xs → ∃ x b ys, xs = [x, .ref b] ∧ Z b = some (.tup ys) ∧ FzA G.K G.CA Z (d1 :: ds) (x :: ys) := fun {Z xs d1 ds} f => by
      obtain ⟨x, r1, rfl, f1, f2⟩ := f
      obtain ⟨y, r2, rfl, f3, f4⟩ := f2
      cases (show _ = _ from f4)
      obtain ⟨b, ys, rfl, g1, _, g2⟩ := f3
      exact ⟨x, b, ys, rfl, g1, x, ys, rfl, f1, g2⟩
    unfold asgT at ha
    split at ha
    · rename_i h; cases h
    · rename_i h; cases h
    · rename_i e1 i' is' d1 ds h
      cases h
      split at ha
      · rename_i hlen
        cases ha
        rcases hx with ⟨e, a0, xs, rfl, h1, h2, h3⟩ | ⟨T0, xs, ds', h0, rfl, hT, e, f, hl⟩
        · obtain ⟨x, b, ys, rfl, g1, g2⟩ := two h3
          obtain ⟨w', q1, q2, q3, q4⟩ := Rl.puts g2 hs ⟨.refl, by simp [hlen, Tg.sl]⟩
          refine T.nest1 i is rfl x b ys a0 σ H' Q ?_ ?_ (by have := g2.len; simp at this; omega) ?_
          · rw [e]; exact .inl (.inl (unl_tup (Rl.sub _ _ h1)))
          · rw [e]; exact .inl (.inl (unl_tup (Rl.sub _ _ g1)))
          · rw [e, ← q3]; exact q w' _ q1 q2 fun j hj => out (i :: is) (x :: ys) σ j hj
        · cases h0
          have zq := Rl.zn0 hT
          have zs : Same w.Z (upd w.Z T0 (.tup xs)) := fun a u e => by rw [upd_ne fun z => by rw [z, zq] at e; cases e]; exact e
          have R1 := Rl.allocT (q := T0) (xs := xs) hT
          obtain ⟨x, b, ys, rfl, g1, g2⟩ := two f
          obtain ⟨w', q1, q2, q3, q4⟩ := R1.puts (g2.same zs) hs ⟨.refl, by simp [hlen, Tg.sl]⟩
          refine T.nest1 i is rfl x b ys T0 σ H' Q ?_ ?_ (by have := g2.len; simp at this; omega) ?_
          · rw [e]; exact .inl (.inl upd_same)
          · rw [e]; exact .inl (.inl (unl_tup (R1.sub _ _ (zs _ _ g1))))
          · rw [e]
            have := q w' _ q1 ((Ext.allocT hT zq).trans q2) fun j hj => out (i :: is) (x :: ys) σ j hj
            rw [q3] at this
            exact this
      · cases ha
    · rename_i h; cases h
    · cases ha
  | tn is i =>
    have two : ∀ {Z : Hp} {xs : List V} {d1 : D} {ds : List D}, FzA G.K G.CA Z [.tup ds, d1] xs → ∃ x b ys, xs = [.ref b, x] ∧ Z b = some (.tup ys) ∧ FzA G.K G.CA Z (ds ++ [d1]) (ys ++ [x]) ∧ ys.length = ds.length := fun {Z xs d1 ds} f => by
      obtain ⟨y, r1, rfl, f1, f2⟩ := f
      obtain ⟨x, r2, rfl, f3, f4⟩ := f2
      cases (show _ = _ from f4)
      obtain ⟨b, ys, rfl, g1, _, g2⟩ := f1
      exact ⟨x, b, ys, rfl, g1, g2.app ⟨x, [], rfl, f3, rfl⟩, g2.len⟩
    unfold asgT at ha
    split at ha
    · rename_i h; cases h
    · rename_i h; cases h
    · rename_i h; cases h
    · rename_i e1 is' i' ds d1 h
      cases h
      split at ha
      · rename_i hlen
        cases ha
        rcases hx with ⟨e, a0, xs, rfl, h1, h2, h3⟩ | ⟨T0, xs, ds', h0, rfl, hT, e, f, hl⟩
        · obtain ⟨x, b, ys, rfl, g1, g2, g3⟩ := two h3
          obtain ⟨w', q1, q2, q3, q4⟩ := Rl.puts g2 hs ⟨.refl, by simp [hlen, Tg.sl]⟩
          refine T.nest2 is i rfl x b ys a0 σ H' Q ?_ ?_ (g3.trans hlen) ?_
          · rw [e]; exact .inl (.inl (unl_tup (Rl.sub _ _ h1)))
          · rw [e]; exact .inl (.inl (unl_tup (Rl.sub _ _ g1)))
          · rw [e, ← q3]; exact q w' _ q1 q2 fun j hj => out (is ++ [i]) (ys ++ [x]) σ j hj
        · cases h0
          have zq := Rl.zn0 hT
          have zs : Same w.Z (upd w.Z T0 (.tup xs)) := fun a u e => by rw [upd_ne fun z => by rw [z, zq] at e; cases e]; exact e
          have R1 := Rl.allocT (q := T0) (xs := xs) hT
          obtain ⟨x, b, ys, rfl, g1, g2, g3⟩ := two f
          obtain ⟨w', q1, q2, q3, q4⟩ := R1.puts (g2.same zs) hs ⟨.refl, by simp [hlen, Tg.sl]⟩
          refine T.nest2 is i rfl x b ys T0 σ H' Q ?_ ?_ (g3.trans hlen) ?_
          · rw [e]; exact .inl (.inl upd_same)
          · rw [e]; exact .inl (.inl (unl_tup (R1.sub _ _ (zs _ _ g1))))
          · rw [e]
            have := q w' _ q1 ((Ext.allocT hT zq).trans q2) fun j hj => out (is ++ [i]) (ys ++ [x]) σ j hj
            rw [q3] at this
            exact this
      · cases ha
    · cases ha
def forL (t : Tg) (c : DS) : List D → DS
  | [], e => some (.nx e)
  | d :: ds, e => match asgT t d e with
    | none => none
    | some e1 => match c e1 with
      | some (.nx e2) => forL t c ds e2
      | some (.ct e2) => forL t c ds e2
      | some (.bk e2) => some (.nx e2)
      | o => o
def sFor (t : Tg) (it : DA) (c : DS) : DS := bndS it (forL t c)
theorem ss_for {t : Tg} {g : TG} (T : TgS G.K t g) (pg : PG X tg g) (hp : PassesOwn (model X.prog X.w) X.A X.env X.xe) (hc : X.calm = true) (hi : PI X tg iter (tI G ms lk bs Ea XE cs)) (hb : PSs X body (tS G ms lk ms E1 { R with mb := ms } XE c))
    (hs : ∀ i ∈ t.sl, i < ms.length ∧ ms.set i 0 = ms ∧ i ∉ G.pins := by try dsimp only; decide +kernel) (hd : ∀ j ∈ bs, j ∉ t.sl ++ E1 := by decide) (hf : ∀ x, foldedSetIterable iter X.env x = pure x := by intro _; rfl) :
    PS X (.For tg iter body [] pos) (tS G ms lk ms (Ea ++ (t.sl ++ E1)) R XE (sFor t cs c)) := PS.weak (ps_for hp hc hi pg hb hf) fun Dn σ H ⟨w, env, o, hH, Rl, ho, F⟩ => by
  have l1 : ∀ j ∈ Ea, j ∈ Ea ++ (t.sl ++ E1) := fun j hj => List.mem_append_left _ hj
  have l2 : ∀ j ∈ t.sl ++ E1, j ∈ Ea ++ (t.sl ++ E1) := fun j hj => List.mem_append_right _ hj
  have l3 : ∀ j ∈ t.sl, j ∈ t.sl ++ E1 := fun j hj => List.mem_append_left _ hj
  have l4 : ∀ j ∈ E1, j ∈ t.sl ++ E1 := fun j hj => List.mem_append_right _ hj
  unfold sFor bndS at ho
  cases ec : cs env with
  | none => rw [ec] at ho; cases ho
  | some o1 =>
    rw [ec] at ho
    refine ⟨w, env, o1, hH, Rl, ec, ?_⟩
    cases o1 with
    | ex x e1 => cases ho; exact fun w' p R' x' P => F w' p σ (.inr trivial) (x'.mono l1) P
    | ok items e1 =>
      intro w0 J R0 x0 IO
      refine ⟨fun i m σ' H' => ∃ wi ei, wi.H = H' ∧ Rel G ms lk wi ei σ' ∧ Ext (t.sl ++ E1) w0 wi ∧ i ≤ items.length ∧ m = items.length - i ∧ forL t c (items.drop i) ei = some o, ⟨items.length, w0, e1, rfl, R0, .refl, Nat.zero_le _, rfl, ho⟩, ?_⟩
      rintro i m σ1 H1 ⟨wi, ei, rfl, Ri, xi, hi, rfl, hf⟩
      obtain ⟨go, stop, yld⟩ := IO _ wi xi hd Ri.sub Ri.tz
      rcases Nat.lt_or_ge i items.length with hlt | hge
      · refine .inr ⟨go i hlt, ?_⟩
        have ed : items.drop i = items[i] :: items.drop (i + 1) := List.drop_eq_getElem_cons hlt
        rw [ed] at hf
        unfold forL at hf
        cases ea : asgT t items[i] ei with
        | none => rw [ea] at hf; cases hf
        | some e2 =>
          rw [ea] at hf
          dsimp only at hf
          refine ⟨fun σ' H' => ∃ wi ei, wi.H = H' ∧ Rel G ms lk wi ei σ' ∧ Ext (t.sl ++ E1) w0 wi ∧ forL t c (items.drop (i + 1)) ei = some o, fun σ' H' ⟨wj, ej, h1, h2, h3, h4⟩ => ⟨items.length - (i + 1), by omega, wj, ej, h1, h2, h3, hlt, rfl, h4⟩, fun x H' hy => ?_⟩
          refine asg_of T Ri hs ea (yld i _ x H' (List.getElem?_eq_getElem hlt) hy) fun w2 σ2 R2 x2 _ => ?_
          have x02 := xi.trans (x2.mono l3)
          have xw := (x0.mono l1).trans (x02.mono l2)
          cases eb : c e2 with
          | none => rw [eb] at hf; cases hf
          | some o2 =>
            rw [eb] at hf
            refine ⟨w2, e2, o2, rfl, R2, eb, ?_⟩
            cases o2 with
            | nx e3 => exact fun w' σ' R' x => ⟨w', e3, rfl, R', x02.trans (x.mono l4), hf⟩
            | ct e3 => exact fun w' σ' R' x => ⟨w', e3, rfl, R', x02.trans (x.mono l4), hf⟩
            | bk e3 => cases hf; exact fun w' σ' R' x => F w' σ' R' (xw.trans (x.mono fun j hj => l2 j (l4 j hj)))
            | rt d e3 => cases hf; exact fun w' σ' v L msr lkr e'' R' i x V n => F w' σ' v L msr lkr e'' R' i (xw.trans (x.mono fun j hj => l2 j (l4 j hj))) V ((n.mono (fun j hj => l2 j (l4 j hj)) fun _ z => z).back xw)
            | ex y e3 => cases hf; exact fun w' p σ' _ x P => F w' p σ' (.inr trivial) (xw.trans (x.mono fun j hj => l2 j (l4 j hj))) P
      · have e : i = items.length := by omega
        subst e
        rw [List.drop_length] at hf
        cases hf
        exact .inl ⟨stop, F wi σ1 Ri ((x0.mono l1).trans (xi.mono l2))⟩
end
end PD
namespace PD
open PySem PySem.Spec PyProof.Rows L2 GF
/-! ### walked things, comprehensions -/
theorem iter_walk {G : Gc} {bs : List Nat} {w0 : Wd} {J : It} {items : List D} {n : Nat} {Gd : Hp → Prop} {Y : Nat → Hp → V → Hp → Prop} (W : Walk J n Gd Y) (hn : n = items.length) (hG : ∀ E' wi, Ext E' w0 wi → (∀ j ∈ bs, j ∉ E') → Same wi.Z (unl wi.H) → Gd wi.H ∧
    ∀ (i : Nat) (d : D) x H', items[i]? = some d → Y i wi.H x H' → (H' = wi.H ∧ Fz G.K G.CA wi.Z d x) ∨ ∃ T xs ds, d = .tup ds ∧ x = .ref T ∧ wi.H T = none ∧ H' = upd wi.H T (.tup xs) ∧ FzA G.K G.CA wi.Z ds xs ∧ ds.length ≤ sizeLine) : IterOk G bs w0 J items := fun E' wi x hb s _ => by
  obtain ⟨h1, h2⟩ := hG E' wi x hb s
  subst hn
  exact ⟨fun i hi => W.goes i _ hi h1, W.stops _ h1, fun i d y H' e q => h2 i d y H' e (W.yields i _ y H' (List.getElem?_eq_some_iff.mp e).1 h1 q)⟩
def chr1 (c : Nat) : D := .str ⟨#[c]⟩
def itD : D → Option (List D)
  | .lst ds => some ds
  | .tup ds => some ds
  | .str s => some (s.cps.toList.map chr1)
  | _ => none
def itE (a : DE) : DA := bnd a fun d => lf (itD d)
theorem _root_.L2.PI.weak {X : Cx} {tg it : Expr} {t t' : TI} (h : PI X tg it t) (i : ∀ σ H R, t' σ H R → t σ H R) : PI X tg it t' := ⟨fun pins s σ H R I q => h.run pins s σ H R I (i σ H R q)⟩
theorem _root_.L2.PI.or {X : Cx} {tg it : Expr} {t u : TI} (h : PI X tg it t) (h' : PI X tg it u) : PI X tg it fun σ H R => t σ H R ∨ u σ H R := ⟨fun pins s σ H R I q => q.elim (h.run pins s σ H R I) (h'.run pins s σ H R I)⟩
section
variable {X : Cx} {K : PySem.W.Frag} {G : Gc} {ms lk ms' : List Nat} {k ka kb : Kd} {bs E E1 Ea Eb : List Nat} {R : Rt} {XE : XK} {pos p : Pos} {a b e tg iter : Expr} {es : List Expr} {ca cb : DE} {cs : DA} {c : DS} {body : List Stmt} {Dn : Ends}
theorem Kids.fz {w : Wd} {L : List Addr} {d : D} {u : V} (h : Kids G w L k d u) (hc : k.chi = .own 0) : Fz G.K G.CA w.Z d u := by
  obtain ⟨M, h1, _⟩ := h.ex
  rw [hc] at h1
  exact h1.1.2
/-- a walked thing's own object stays -/
theorem ValR.stay {ms lk : List Nat} {w1 wi : Wd} {env1 : Ev} {σ : L2.St} {E' : List Nat} {d : D} {a0 : Addr} {L : List Addr} (V1 : ValR G w1 d (.ref a0) L k) (hd : (∃ ds, d = .lst ds) ∨ ∃ ds, d = .tup ds) (ok : k.okc = true) (hc : k.chi = .own 0) (R1 : Rel G ms lk w1 env1 σ) (xi : Ext E' w1 wi) (hb : ∀ j ∈ k.bs, j ∉ E') {o : HO} (h : w1.H a0 = some o) (po : isDk o = false := by rfl) : wi.H a0 = some o := by
  refine (xi.hh a0 _ h fun j hj1 hj2 => ?_).resolve_right fun q => by rw [po] at q; cases q.2.1
  have fz : ∀ {d : D}, ((∃ ds, d = .lst ds) ∨ ∃ ds, d = .tup ds) → Fz G.K G.CA w1.Z d (.ref a0) → False := fun {d} hd q => by
    rcases hd with ⟨ds, rfl⟩ | ⟨ds, rfl⟩
    · obtain ⟨a2, xs2, e3, q1, _⟩ := q
      cases e3
      rw [R1.zn j a0 hj2] at q1; cases q1
    · obtain ⟨a2, xs2, e3, q1, _⟩ := q
      cases e3
      rw [R1.zn j a0 hj2] at q1; cases q1
  have ow : ∀ {d : D} {m : Nat}, ((∃ ds, d = .lst ds) ∨ ∃ ds, d = .tup ds) → Ow G.K G.CA w1.Z (unl w1.H) (m + 1) d (.ref a0) L → a0 ∈ L ∨ w1.Z a0 ≠ none := fun {d m} hd q => by
    rcases hd with ⟨ds, rfl⟩ | ⟨ds, rfl⟩
    · obtain ⟨a2, xs2, L', e3, q1, q2, rfl, q3⟩ := q
      cases e3
      exact .inl List.mem_cons_self
    · obtain ⟨a2, xs2, e3, q1, q2, q3⟩ := q
      cases e3
      exact .inr (by rw [q1]; simp)
  cases k with
  | own m =>
    cases m with
    | zero => exact fz hd V1.1.2
    | succ m =>
      rcases ow hd V1.1 with y | y
      · exact (V1.2.2 a0 y).2.1 j hj2
      · exact y (R1.zn j a0 hj2)
  | bor m bs =>
    cases m with
    | zero => exact fz hd V1.1.2
    | succ m =>
      rcases ow hd V1.1 with y | y
      · obtain ⟨l, hl2, q⟩ := V1.2 a0 y
        by_cases e : l = j
        · subst e; exact hb l hl2 hj1
        · exact R1.dj l j e a0 q hj2
      · exact y (R1.zn j a0 hj2)
  | tmp bs => cases hc
theorem okt_of {k : Kd} (h : k.chi = .own 0) : k.okt = true := by
  cases k with
  | own m => rfl
  | tmp bs => rfl
  | bor m bs =>
    match m, h with
    | 0, _ => rfl
    | 1, _ => rfl
    | m + 2, h => cases h
/-- a list, a tuple, a text -/
theorem si_seq (ha : PE X a (tD G ms lk k E XE ca)) (ok : k.okc = true := by rfl) (hc : k.chi = .own 0 := by rfl) (hK : X.K = G.K := by rfl) : PI X tg a (tI G ms lk k.bs E XE (itE ca)) := PI.weak (PI.or (pi_list ha) (PI.or (pi_tup ha) (pi_str ha))) fun σ H Rr ⟨w, env, o, hH, Rl, ho, F⟩ => by
  rw [hK, ← hH]
  unfold itE at ho
  rcases bnd_some ho with ⟨d, env1, he, ho1⟩ | ⟨x, e0, he, rfl⟩
  · obtain ⟨items, hz, rfl⟩ := lf_some ho1
    cases d with
    | lst ds =>
      cases hz
      refine .inl ⟨w, env, _, rfl, Rl, he, fun w1 v L R1 x1 V1 n1 => ?_⟩
      obtain ⟨a0, xs, rfl, h1, h2, h3, h4⟩ := V1.lst ok R1.sub
      refine ⟨a0, rfl, ⟨xs, .inl (.inl (unl_lst h1))⟩, F w1 _ R1 x1 (iter_walk (walk_list (xs := xs)) h3 fun E' wi xi hb s => ?_)⟩
      obtain ⟨a1, xs1, e1, g1, g2, g3, g4⟩ := (V1.ext xi hb R1.dz).lst ok s
      cases e1
      have e2 : xs1 = xs := by
        have hk : wi.H a0 = some (.lst xs1) := unl_lst g1
        rw [V1.stay (.inl ⟨_, rfl⟩) ok hc R1 xi hb (unl_lst h1)] at hk
        cases hk
        rfl
      subst e2
      refine ⟨.inl (.inl (unl_lst g1)), fun i d x H' ed hy => .inl ⟨hy.1, ?_⟩⟩
      obtain ⟨u, e3, q⟩ := g4 i d ed
      obtain ⟨_, hy2⟩ := (show H' = wi.H ∧ xs1[i]? = some x from hy)
      rw [e3] at hy2
      cases hy2
      exact q.fz hc
    | tup ds =>
      cases hz
      refine .inr (.inl ⟨w, env, _, rfl, Rl, he, fun w1 v L R1 x1 V1 n1 => ?_⟩)
      obtain ⟨a0, xs, rfl, h1, h2, h3, h4⟩ := V1.tup ok R1.sub
      refine ⟨a0, rfl, ⟨xs, .inl (.inl (unl_tup h1))⟩, F w1 _ R1 x1 (iter_walk (walk_tup (xs := xs)) h3 fun E' wi xi hb s => ?_)⟩
      obtain ⟨a1, xs1, e1, g1, g2, g3, g4⟩ := (V1.ext xi hb R1.dz).tup ok s
      cases e1
      have e2 : xs1 = xs := by
        have hk : wi.H a0 = some (.tup xs1) := unl_tup g1
        rw [V1.stay (.inr ⟨_, rfl⟩) ok hc R1 xi hb (unl_tup h1)] at hk
        cases hk
        rfl
      subst e2
      refine ⟨.inl (.inl (unl_tup g1)), fun i d x H' ed hy => .inl ⟨hy.1, ?_⟩⟩
      obtain ⟨u, e3, q⟩ := g4 i d ed
      obtain ⟨_, hy2⟩ := (show H' = wi.H ∧ xs1[i]? = some x from hy)
      rw [e3] at hy2
      cases hy2
      exact q.fz hc
    | str z =>
      cases hz
      refine .inr (.inr ⟨w, env, _, rfl, Rl, he, fun w1 v L R1 x1 V1 n1 => ?_⟩)
      refine ⟨z, V1.rd R1.sub, F w1 _ R1 x1 (iter_walk (walk_str (z := z)) (by simp) fun E' wi xi hb s => ⟨trivial, fun i d x H' ed hy => .inl ⟨hy.1, ?_⟩⟩)⟩
      obtain ⟨_, c0, hc0, rfl⟩ := hy
      rw [List.getElem?_map] at ed
      rw [show z.cps.toList[i]? = z.cps[i]? by simp, hc0] at ed
      cases ed
      rfl
    | _ => cases hz
  · exact .inl ⟨w, env, _, rfl, Rl, he, F⟩
/-- range(n), range(a, b) -/
def rngD : List D → Option (List D)
  | [.int j] => if -(2 ^ 62) ≤ j ∧ j < 2 ^ 62 then some ((List.range j.toNat).map fun i => .int (0 + (i : Nat))) else none
  | [.int i, .int j] => if -(2 ^ 62) ≤ i ∧ i < 2 ^ 62 ∧ -(2 ^ 62) ≤ j ∧ j < 2 ^ 62 then some ((List.range (j - i).toNat).map fun m => .int (i + (m : Nat))) else none
  | _ => none
def rngE (a : DA) : DA := bnd a fun ds => lf (rngD ds)
theorem tA.bindI {ks : List Kd} {w : Wd} {env : Ev} {σ : L2.St} {P : List V → Hp → Prop} {f : List D → DA} {o : Out (List D)} {FF : Out (List D) → Prop} (Rl : Rel G ms lk w env σ) (ho : bnd cs f env = some o)
    (hx : ∀ x e, o = .ex x e → ∀ w' p, Rel G ms lk w' e σ → Ext E w w' → Pay G w' x p → XE (.ref (G.CA x.c)) p w'.H)
    (hp : ∀ w1 env1 ds vs L, Rel G ms lk w1 env1 σ → Ext E w w1 → VA G w1 ks ds vs L → f ds env1 = some o → P vs w1.H) : tA G ms lk ks E XE cs σ w.H P := by
  unfold bnd at ho
  split at ho
  · rename_i d e1 he
    exact ⟨w, env, .ok d e1, rfl, Rl, he, fun w' v L R' x V n => hp w' e1 d v L R' x V ho⟩
  · rename_i x e1 he
    cases ho
    exact ⟨w, env, .ex x e1, rfl, Rl, he, hx x e1 rfl⟩
  · cases ho
theorem iter_range {bs : List Nat} {w0 : Wd} {lo : Int} {n : Nat} : IterOk G bs w0 (Itr lo n) ((List.range n).map fun (i : Nat) => .int (lo + (i : Int))) := iter_walk walk_range (by simp) fun E' wi xi hb s => ⟨trivial, fun i d x H' ed hy => .inl ⟨hy.1, by
  rw [List.getElem?_map] at ed
  cases e1 : (List.range n)[i]? with
  | none => rw [e1] at ed; cases ed
  | some j =>
    rw [e1] at ed
    cases ed
    obtain ⟨hlt, e2⟩ := List.getElem?_eq_some_iff.mp e1
    rw [List.getElem_range] at e2
    subst e2
    exact hy.2⟩⟩
theorem si_range1 {ks : List Kd} (hg : Gl X "range") (hm : X.mg "range" = none) (ha : PA X [a] (tA G ms lk ks E XE cs)) (hl : ks.length = 1 := by rfl) (hs : starEach [a] X.env = [(false, eval a X.env)] := by rfl) :
    PI X tg (.Call (.Name "range" p) [a] [] pos) (tI G ms lk [] E XE (rngE cs)) := PI.weak (pi_range1 hg hm ha hs) fun σ H Rr ⟨w, env, o, hH, Rl, ho, F⟩ => by
  rw [← hH]
  refine tA.bindI (FF := fun _ => True) Rl ho (fun x e eo w' p R' x' P => by subst eo; exact F w' p R' x' P) fun w1 env1 ds vs L R1 x1 V1 ho1 => ?_
  obtain ⟨items, hz, rfl⟩ := lf_some ho1
  have hl1 := V1.len
  have rd := V1.rd R1.sub
  match ds, hl1, rd, hz with
  | [d], _, rd, hz =>
    obtain ⟨v, r, rfl, h1, h2⟩ := rd
    cases (show r = [] from h2)
    cases d with
    | int j =>
      simp only [rngD] at hz
      split at hz
      · rename_i hj
        cases hz
        exact ⟨j, by rw [show v = .int j from h1], hj.1, hj.2, F w1 _ R1 x1 iter_range⟩
      · cases hz
    | _ => cases hz
  | [], hl1, _, _ => rw [hl] at hl1; exact absurd hl1.1 (by simp)
  | _ :: _ :: _, hl1, _, _ => rw [hl] at hl1; exact absurd hl1.1 (by simp)
theorem si_range2 {ks : List Kd} (hg : Gl X "range") (hm : X.mg "range" = none) (ha : PA X [a, b] (tA G ms lk ks E XE cs)) (hl : ks.length = 2 := by rfl) (hs : starEach [a, b] X.env = [(false, eval a X.env), (false, eval b X.env)] := by rfl) (hs2 : starEach [b] X.env = [(false, eval b X.env)] := by rfl) :
    PI X tg (.Call (.Name "range" p) [a, b] [] pos) (tI G ms lk [] E XE (rngE cs)) := PI.weak (pi_range2 hg hm ha hs hs2) fun σ H Rr ⟨w, env, o, hH, Rl, ho, F⟩ => by
  rw [← hH]
  refine tA.bindI (FF := fun _ => True) Rl ho (fun x e eo w' p R' x' P => by subst eo; exact F w' p R' x' P) fun w1 env1 ds vs L R1 x1 V1 ho1 => ?_
  obtain ⟨items, hz, rfl⟩ := lf_some ho1
  have hl1 := V1.len
  have rd := V1.rd R1.sub
  match ds, hl1, rd, hz with
  | [d, d2], _, rd, hz =>
    obtain ⟨v, r, rfl, h1, v2, r2, rfl, h2, h3⟩ := rd
    cases (show r2 = [] from h3)
    cases d with
    | int i =>
      cases d2 with
      | int j =>
        simp only [rngD] at hz
        split at hz
        · rename_i hj
          cases hz
          exact ⟨i, j, by rw [show v = .int i from h1, show v2 = .int j from h2], hj, F w1 _ R1 x1 iter_range⟩
        · cases hz
      | _ => cases hz
    | _ => cases hz
  | [], hl1, _, _ => rw [hl] at hl1; exact absurd hl1.1 (by simp)
  | [_], hl1, _, _ => rw [hl] at hl1; exact absurd hl1.1 (by simp)
  | _ :: _ :: _ :: _, hl1, _, _ => rw [hl] at hl1; exact absurd hl1.1 (by simp)
end
end PD
namespace PD
open PySem PySem.Spec PyProof.Rows L2 GF
/-! ### zip, enumerate, comprehensions -/
section
variable {X : Cx} {K : PySem.W.Frag} {G : Gc} {ms lk ms' : List Nat} {k ka kb : Kd} {bs E E1 Ea Eb Ei Et Ee : List Nat} {R : Rt} {XE : XK} {pos p tpos : Pos} {a b e tg iter elt : Expr} {es elts : List Expr} {ca cb ce : DE} {cs : DA} {c : DS} {body : List Stmt} {Dn : Ends} {kk : Nat}
/-- a list that is walked stays the same -/
theorem ValR.walk {ms lk : List Nat} {w1 : Wd} {env1 : Ev} {σ : L2.St} {ds : List D} {v : V} {L : List Addr} (V1 : ValR G w1 (.lst ds) v L k) (ok : k.okc = true) (hc : k.chi = .own 0) (R1 : Rel G ms lk w1 env1 σ) :
    ∃ a xs, v = .ref a ∧ w1.H a = some (.lst xs) ∧ xs.length = ds.length ∧ ∀ E' wi, Ext E' w1 wi → (∀ j ∈ k.bs, j ∉ E') → Same wi.Z (unl wi.H) → wi.H a = some (.lst xs) ∧ FzA G.K G.CA wi.Z ds xs := by
  obtain ⟨a0, xs, rfl, h1, h2, h3, h4⟩ := V1.lst ok R1.sub
  refine ⟨a0, xs, rfl, unl_lst h1, h3, fun E' wi xi hb s => ?_⟩
  have st := V1.stay (.inl ⟨_, rfl⟩) ok hc R1 xi hb (unl_lst h1)
  refine ⟨st, ?_⟩
  obtain ⟨a1, xs1, e1, g1, g2, g3, g4⟩ := (V1.ext xi hb R1.dz).lst ok s
  cases e1
  rw [unl_of st rfl] at g1
  cases g1
  have all : ∀ (n : Nat) (ds : List D) (xs : List V), xs.length = ds.length → ds.length = n → (∀ (j : Nat) (d : D), ds[j]? = some d → ∃ u, xs[j]? = some u ∧ Fz G.K G.CA wi.Z d u) → FzA G.K G.CA wi.Z ds xs := by
    intro n
    induction n with
    | zero =>
      intro ds xs h1 h2 _
      cases List.length_eq_zero_iff.mp h2
      exact List.length_eq_zero_iff.mp h1
    | succ n ih =>
      intro ds xs h1 h2 h
      cases ds with
      | nil => cases h2
      | cons d ds =>
        cases xs with
        | nil => cases h1
        | cons x xs =>
          obtain ⟨u, e, q⟩ := h 0 d rfl
          cases e
          exact ⟨x, xs, rfl, q, ih ds xs (by simpa using h1) (by simpa using h2) fun j d e => h (j + 1) d e⟩
  exact all _ ds xs h3 rfl fun j d e => let ⟨u, e1, q⟩ := g4 j d e; ⟨u, e1, q.fz hc⟩
def zipD : List D → Option (List D)
  | [.lst xs, .lst ys] => some ((xs.zip ys).map fun q => .tup [q.1, q.2])
  | _ => none
def zipE (a : DA) : DA := bnd a fun ds => lf (zipD ds)
theorem FzA.zip {Z : Hp} {ds es : List D} {xs ys : List V} (h : FzA G.K G.CA Z ds xs) (h' : FzA G.K G.CA Z es ys) {i : Nat} {d : D} (e : ((ds.zip es).map fun q => D.tup [q.1, q.2])[i]? = some d) {x y : V} (hx : xs[i]? = some x) (hy : ys[i]? = some y) : ∃ l, d = .tup l ∧ FzA G.K G.CA Z l [x, y] ∧ l.length = 2 := by
  rw [List.getElem?_map] at e
  cases e1 : (ds.zip es)[i]? with
  | none => rw [e1] at e; cases e
  | some q =>
    rw [e1] at e
    cases e
    obtain ⟨q1, q2⟩ := q
    obtain ⟨e2, e3⟩ := List.getElem?_zip_eq_some.mp e1
    obtain ⟨u, h1, h2⟩ := h.at e2
    obtain ⟨v, h3, h4⟩ := h'.at e3
    rw [hx] at h1; cases h1
    rw [hy] at h3; cases h3
    exact ⟨_, rfl, ⟨_, _, rfl, h2, _, _, rfl, h4, rfl⟩, rfl⟩
theorem si_zip (hg : Gl X "zip") (hm : X.mg "zip" = none) (ha : PA X [a, b] (tA G ms lk [ka, kb] E XE cs)) (oa : ka.okc = true := by rfl) (ob : kb.okc = true := by rfl) (ca : ka.chi = .own 0 := by rfl) (cb : kb.chi = .own 0 := by rfl)
    (hs : starEach [a, b] X.env = (false, eval a X.env) :: starEach [b] X.env := by rfl) (hs2 : (backTo pos (starEach [b] X.env)).any (·.1) = false := by rfl) (hK : X.K = G.K := by rfl) :
    PI X (.Tuple elts kk tpos) (.Call (.Name "zip" p) [a, b] [] pos) (tI G ms lk (ka.bs ++ kb.bs) E XE (zipE cs)) := PI.weak (pi_zip hg hm ha hs hs2) fun σ H Rr ⟨w, env, o, hH, Rl, ho, F⟩ => by
  rw [← hH, hK]
  refine tA.bindI (FF := fun _ => True) Rl ho (fun x e eo w' p R' x' P => by subst eo; exact F w' p R' x' P) fun w1 env1 ds vs L R1 x1 V1 ho1 => ?_
  obtain ⟨items, hz, rfl⟩ := lf_some ho1
  obtain ⟨d, r, v, vs', L1, L2, rfl, rfl, rfl, h1, h2, _⟩ := V1
  obtain ⟨d2, r2, v2, vs2, L3, L4, rfl, rfl, rfl, h3, h4, _⟩ := h2
  obtain ⟨rfl, rfl, rfl⟩ := h4
  unfold zipD at hz
  split at hz
  · rename_i ds es heq
    cases heq
    cases hz
    obtain ⟨a1, xs, rfl, g1, g2, g3⟩ := h1.walk oa ca R1
    obtain ⟨a2, ys, rfl, g4, g5, g6⟩ := h3.walk ob cb R1
    refine ⟨a1, a2, xs, ys, rfl, .inl (.inl g1), .inl (.inl g4), F w1 _ R1 x1 (iter_walk (walk_zip (xs := xs) (ys := ys) rfl) (by rw [List.length_map, List.length_zip, g2, g5]) fun E' wi xi hb s => ?_)⟩
    obtain ⟨q1, q2⟩ := g3 E' wi xi (fun j hj => hb j (List.mem_append_left _ hj)) s
    obtain ⟨q3, q4⟩ := g6 E' wi xi (fun j hj => hb j (List.mem_append_right _ hj)) s
    refine ⟨⟨.inl (.inl q1), .inl (.inl q3)⟩, fun i d x H' ed hy => .inr ?_⟩
    obtain ⟨T, x0, y0, rfl, hT, hH, hx, hy⟩ := hy
    obtain ⟨l, rfl, hl, hl2⟩ := q2.zip q4 ed hx hy
    exact ⟨T, [x0, y0], l, rfl, rfl, hT, hH, hl, by rw [hl2]; show 2 ≤ sizeLine; decide⟩
  · cases hz
def enumD : D → Option (List D)
  | .lst xs => some (xs.zipIdx.map fun q => .tup [.int (q.2 : Nat), q.1])
  | _ => none
def enumE (a : DA) : DA := bnd a fun ds => lf (match ds with | [d] => enumD d | _ => none)
theorem si_enum (hg : Gl X "enumerate") (hm : X.mg "enumerate" = none) (ha : PA X [a] (tA G ms lk [ka] E XE cs)) (oa : ka.okc = true := by rfl) (ca : ka.chi = .own 0 := by rfl)
    (hs : starEach [a] X.env = [(false, eval a X.env)] := by rfl) (hK : X.K = G.K := by rfl) :
    PI X (.Tuple elts kk tpos) (.Call (.Name "enumerate" p) [a] [] pos) (tI G ms lk ka.bs E XE (enumE cs)) := PI.weak (pi_enum hg hm ha hs) fun σ H Rr ⟨w, env, o, hH, Rl, ho, F⟩ => by
  rw [← hH, hK]
  refine tA.bindI (FF := fun _ => True) Rl ho (fun x e eo w' p R' x' P => by subst eo; exact F w' p R' x' P) fun w1 env1 ds vs L R1 x1 V1 ho1 => ?_
  obtain ⟨items, hz, rfl⟩ := lf_some ho1
  obtain ⟨d, r, v, vs', L1, L2, rfl, rfl, rfl, h1, h2, _⟩ := V1
  obtain ⟨rfl, rfl, rfl⟩ := h2
  cases d with
  | lst ds =>
    cases hz
    obtain ⟨a1, xs, rfl, g1, g2, g3⟩ := h1.walk oa ca R1
    refine ⟨a1, xs, rfl, .inl (.inl g1), F w1 _ R1 x1 (iter_walk (walk_enum (xs := xs)) (by rw [List.length_map, List.length_zipIdx, g2]) fun E' wi xi hb s => ?_)⟩
    obtain ⟨q1, q2⟩ := g3 E' wi xi hb s
    refine ⟨.inl (.inl q1), fun i d x H' ed hy => .inr ?_⟩
    obtain ⟨T, x0, y0, rfl, hT, hH, hx, hy⟩ := hy
    cases hx
    rw [List.getElem?_map, List.getElem?_zipIdx] at ed
    cases e1 : ds[i]? with
    | none => rw [e1] at ed; cases ed
    | some d0 =>
      rw [e1] at ed
      cases ed
      obtain ⟨u, h3, h4⟩ := q2.at e1
      rw [show xs[i]? = some y0 from hy] at h3; cases h3
      refine ⟨T, [.int (i : Nat), y0], _, rfl, rfl, hT, hH, ⟨_, _, rfl, ?_, _, _, rfl, h4, rfl⟩, by show 2 ≤ sizeLine; decide⟩
      show V.int _ = V.int _
      rw [Nat.zero_add]
  | _ => cases hz
/-! comprehensions -/
def wipeE : List Nat → Ev → Ev
  | [], e => e
  | i :: vs, e => (wipeE vs e).set i none
def compL (t : Tg) (tt : DB) (te : DE) (vs : List Nat) : List D → List D → Ev → Option (Out (List D))
  | [], acc, e => some (.ok acc (wipeE vs e))
  | d :: ds, acc, e => match asgT t d (wipeE vs e) with
    | none => none
    | some e1 => match tt e1 with
      | some (.ok true e2) => match te e2 with
        | some (.ok y e3) => compL t tt te vs ds (acc ++ [y]) e3
        | _ => none
      | some (.ok false e2) => compL t tt te vs ds acc e2
      | _ => none
def dLc (it : DA) (t : Tg) (tt : DB) (te : DE) (vs : List Nat) : DE := bnd it fun items e => if items.length ≤ sizeLine then match compL t tt te vs items [] e with
  | some (.ok acc e1) => some (.ok (.lst acc) e1)
  | _ => none
  else none
/-- a slot is wiped -/
theorem Rel.wipe1 {w : Wd} {env : Ev} {σ : L2.St} (Rl : Rel G ms lk w env σ) (i : Nat) (hp : i ∉ G.pins) : Rel G ms lk ⟨w.Z, w.H, fun j => if j = i then [] else w.Ls j⟩ (env.set i none) (σ.set i none) := by
  obtain ⟨r1, r2, r3, r4, r5, r6, r7, r8, r9⟩ := Rl.drop i
  refine ⟨r1, by rw [List.length_set, List.length_set]; exact Rl.len, fun j d hd => ?_, r4, r5, r6, r7, r8, fun j hj => ?_, Rl.tz⟩
  · obtain ⟨v, h1, h2⟩ := r3 j d hd
    refine ⟨v, ?_, h2⟩
    by_cases e : i = j
    · subst e
      rw [List.getElem?_set] at hd
      split at hd <;> first | cases hd | (split at hd <;> cases hd) | skip
      · rename_i h; exact absurd rfl h
    · rw [List.getElem?_set_ne e]; exact h1
  · rw [List.getElem?_set_ne fun z => hp (by rw [z]; exact hj)]
    exact r9 j hj
theorem Rel.wipe {w : Wd} {env : Ev} {σ : L2.St} (Rl : Rel G ms lk w env σ) : ∀ (vs : List Nat), (∀ i ∈ vs, i ∉ G.pins) → ∃ w', w'.Z = w.Z ∧ w'.H = w.H ∧ (∀ j, j ∉ vs → w'.Ls j = w.Ls j) ∧ (∀ j ∈ vs, w'.Ls j = []) ∧ Rel G ms lk w' (wipeE vs env) (L2.wipe σ vs)
  | [], _ => ⟨w, rfl, rfl, fun _ _ => rfl, fun _ z => (by cases z), Rl⟩
  | i :: vs, hp => by
    obtain ⟨w', h1, h2, h3, h4, h5⟩ := Rl.wipe vs fun j hj => hp j (List.mem_cons_of_mem _ hj)
    refine ⟨⟨w'.Z, w'.H, fun j => if j = i then [] else w'.Ls j⟩, h1, h2, fun j hj => ?_, fun j hj => ?_, h5.wipe1 i (hp i List.mem_cons_self)⟩
    · show (if j = i then [] else w'.Ls j) = _
      rw [if_neg fun z => hj (by rw [z]; exact List.mem_cons_self)]
      exact h3 j fun z => hj (List.mem_cons_of_mem _ z)
    · show (if j = i then [] else w'.Ls j) = _
      split
      · rfl
      · rename_i e; exact h4 j ((List.mem_cons.mp hj).resolve_left e)
theorem Ext.wiped {w w' : Wd} {vs : List Nat} (h1 : w'.Z = w.Z) (h2 : w'.H = w.H) (h3 : ∀ j, j ∉ vs → w'.Ls j = w.Ls j) (h4 : ∀ j ∈ vs, w'.Ls j = []) : Ext vs w w' :=
  ⟨fun a o e => by rw [h1]; exact e, fun a o e _ => .inl (by rw [h2]; exact e), fun a z1 z2 => absurd z2 (by rw [← h1]; exact z1), h3, fun j hj a ha => (by rw [h4 j hj] at ha; cases ha), fun a h => (by rw [h2]; exact h)⟩
theorem wipe_get : ∀ (vs : List Nat) (σ : L2.St) (i : Nat), (L2.wipe σ vs)[i]? = if i ∈ vs ∧ i < σ.length then some none else σ[i]?
  | [], σ, i => by simp [L2.wipe]
  | j :: vs, σ, i => by
    show ((L2.wipe σ vs).set j none)[i]? = _
    rw [List.getElem?_set, wipe_length, wipe_get vs σ i]
    by_cases e : j = i
    · subst e
      by_cases h : j < σ.length
      · simp [h]
      · simp [h]
    · simp [e, Ne.symm e]
/-- what is no slot's is written -/
theorem Rel.mut {w : Wd} {env : Ev} {σ : L2.St} (Rl : Rel G ms lk w env σ) {q : Addr} {o : HO} (hz : w.Z q = none) (hl : ∀ j, q ∉ w.Ls j) (po : plain o = true) (pt : ∀ xs, o ≠ .tup xs) : Rel G ms lk ⟨w.Z, upd w.H q o, w.Ls⟩ env σ := by
  have ne : ∀ {i : Nat} {a : Addr}, a ∈ w.Ls i → a ≠ q := fun {i a} ha z => by subst z; exact hl i ha
  refine ⟨fun a u e => ?_, Rl.len, fun i d hd => ?_, Rl.emp, Rl.nd, Rl.dj, Rl.zn, fun i hi a ha => ?_, Rl.pin, fun a xs e => ?_⟩
  · show unl (upd w.H q o) a = some u
    have h := Rl.sub a u e
    rw [unl_upd po, upd_ne fun z => by subst z; rw [hz] at e; cases e]
    exact h
  · obtain ⟨v, hv, y⟩ := Rl.slot i d hd
    refine ⟨v, hv, y.frame (fun _ _ z => z) fun a ha => ?_⟩
    show unl (upd w.H q o) a = _
    rw [unl_upd po, upd_ne (ne ha)]
  · show unl (upd w.H q o) a = upd w.H q o a
    rw [unl_upd po, upd_ne (ne ha), upd_ne (ne ha)]
    exact Rl.nl i hi a ha
  · have e : upd w.H q o a = some (.tup xs) := e
    by_cases z : a = q
    · subst z; rw [upd_same] at e; cases e; exact absurd rfl (pt xs)
    · rw [upd_ne z] at e; exact Rl.tz a xs e
theorem wipeE_get : ∀ (vs : List Nat) (e : Ev) (i : Nat), i ∈ vs → ∀ d, (wipeE vs e)[i]? ≠ some (some d)
  | [], _, _, h, _ => by cases h
  | j :: vs, e, i, h, d => by
    show ((wipeE vs e).set j none)[i]? ≠ _
    rw [List.getElem?_set]
    by_cases z : j = i
    · subst z
      rw [if_pos rfl]
      split <;> simp
    · rw [if_neg z]
      exact wipeE_get vs e i ((List.mem_cons.mp h).resolve_left (Ne.symm z)) d
/-- the def's own slots are as they were -/
theorem Rel.unwipe {w : Wd} {e : Ev} {σ : L2.St} {vs : List Nat} (Rl : Rel G ms lk w (wipeE vs e) (L2.wipe σ vs)) (hp : ∀ i ∈ vs, i ∉ G.pins) : Rel G ms lk w (wipeE vs e) σ := by
  have same : ∀ i, i ∉ vs → (L2.wipe σ vs)[i]? = σ[i]? := fun i hi => by rw [wipe_get, if_neg fun z => hi z.1]
  refine ⟨Rl.sub, by rw [Rl.len, wipe_length], fun i d hd => ?_, Rl.emp, Rl.nd, Rl.dj, Rl.zn, Rl.nl, fun i hi => ?_, Rl.tz⟩
  · obtain ⟨v, h1, h2⟩ := Rl.slot i d hd
    refine ⟨v, ?_, h2⟩
    rw [← same i fun z => wipeE_get vs e i z d hd]
    exact h1
  · rw [← same i fun z => hp i z hi]
    exact Rl.pin i hi
theorem setL_len : ∀ (is : List Nat) (ds : List D) (e : Ev), (setL is ds e).length = e.length
  | [], ds, e => by cases ds <;> rfl
  | _ :: _, [], e => rfl
  | j :: is, d :: ds, e => by
    show (setL is ds (e.set j (some d))).length = _
    rw [setL_len is ds, List.length_set]
theorem asgT_len {t : Tg} {d : D} {e e1 : Ev} (h : asgT t d e = some e1) : e1.length = e.length := by
  cases t with
  | nm j => cases h; rw [List.length_set]
  | tp is =>
    cases d with
    | tup ds =>
      unfold asgT at h
      dsimp only at h
      split at h
      · cases h; rw [setL_len]
      · cases h
    | _ => cases h
  | nt j is =>
    unfold asgT at h
    split at h
    · rename_i q; cases q
    · rename_i q; cases q
    · split at h
      · cases h; rw [setL_len]
      · cases h
    · rename_i q; cases q
    · cases h
  | tn is j =>
    unfold asgT at h
    split at h
    · rename_i q; cases q
    · rename_i q; cases q
    · rename_i q; cases q
    · split at h
      · cases h; rw [setL_len]
      · cases h
    · cases h
theorem tLc_of {t : Tg} {g : TG} {tt : DB} {m : Nat} {vs : List Nat} (T : TgS G.K t g) (hs : ∀ i ∈ t.sl, i < ms.length ∧ ms.set i 0 = ms ∧ i ∉ G.pins) (hv : ∀ i ∈ t.sl, i ∈ vs) (hp : ∀ i ∈ vs, i ∉ G.pins) (hd : ∀ j ∈ bs, j ∉ vs ++ (Et ++ Ee))
    {σ : L2.St} {H : Hp} {Q : VK} (h : tD G ms lk (.own (m + 1)) (Ei ++ (vs ++ (Et ++ Ee))) XE (dLc cs t tt ce vs) σ H Q) :
    tLc (tI G ms lk bs Ei XE cs) g (tT G ms lk Et E0 tt) (tD G ms lk (.own m) Ee E0 ce) vs σ H Q := by
  obtain ⟨w, env, o, hH, Rl, ho, F⟩ := h
  have l1 : ∀ j ∈ Ei, j ∈ Ei ++ (vs ++ (Et ++ Ee)) := fun j hj => List.mem_append_left _ hj
  have l2 : ∀ j ∈ vs ++ (Et ++ Ee), j ∈ Ei ++ (vs ++ (Et ++ Ee)) := fun j hj => List.mem_append_right _ hj
  have lv : ∀ j ∈ vs, j ∈ vs ++ (Et ++ Ee) := fun j hj => List.mem_append_left _ hj
  have lt : ∀ j ∈ Et, j ∈ vs ++ (Et ++ Ee) := fun j hj => List.mem_append_right _ (List.mem_append_left _ hj)
  have le : ∀ j ∈ Ee, j ∈ vs ++ (Et ++ Ee) := fun j hj => List.mem_append_right _ (List.mem_append_right _ hj)
  unfold dLc at ho
  rcases bnd_some ho with ⟨items, env1, he, ho1⟩ | ⟨x, e0, he, rfl⟩
  · refine ⟨w, env, _, hH, Rl, he, fun w1 J R1 x1 IO q hq => ?_⟩
    split at ho1
    · rename_i hsz
      split at ho1
      · rename_i accF eF hcomp
        cases ho1
        obtain ⟨w2, a1, a2, a3, a4, R2⟩ := R1.wipe vs hp
        have x2 : Ext vs w1 w2 := .wiped a1 a2 a3 a4
        have hq2 : w2.H q = none := by rw [a2]; exact hq
        let Wv : Nat → Nat → Hp → Prop := fun i n H' => ∃ wi ei acc La, wi.H = H' ∧ Rel G ms lk wi (wipeE vs ei) (L2.wipe σ vs) ∧ ValR G wi (.lst acc) (.ref q) (q :: La) (.own (m + 1)) ∧ Ext (vs ++ (Et ++ Ee)) w1 wi ∧
          (∀ a ∈ La, w1.H a ≠ none → ∃ j ∈ vs ++ (Et ++ Ee), a ∈ w1.Ls j) ∧ i ≤ items.length ∧ acc.length ≤ i ∧ n = items.length - i ∧ compL t tt ce vs (items.drop i) acc ei = some (.ok accF eF)
        refine ⟨Wv, ⟨items.length, ⟨w2.Z, upd w2.H q (.lst []), w2.Ls⟩, env1, [], [], by show upd w2.H q _ = _; rw [a2], R2.alloc hq2 rfl (fun _ z => by cases z), ?_, (x2.trans (Ext.alloc hq2)).mono lv, fun _ z => (by cases z), Nat.zero_le _, Nat.zero_le _, rfl, hcomp⟩, ?_⟩
        · have zq : w2.Z q = none := by
            cases e : w2.Z q with
            | none => rfl
            | some u => have := R2.sub q u e; rw [unl_none.mpr hq2] at this; cases this
          refine ⟨⟨q, [], [], rfl, unl_of upd_same rfl, Nat.zero_le _, rfl, rfl, rfl⟩, by simp, fun a ha => ?_⟩
          cases (by simpa using ha : a = q)
          exact ⟨zq, fun j z => R2.there z hq2, by rw [unl_of (H := upd w2.H q (.lst [])) upd_same rfl]; exact upd_same.symm⟩
        rintro i n H' ⟨wi, ei, acc, La, rfl, Ri, Va, xi, nw, hi, hac, rfl, hc⟩
        obtain ⟨go, stop, yld⟩ := IO _ wi xi hd Ri.sub Ri.tz
        rcases Nat.lt_or_ge i items.length with hlt | hge
        · refine .inr ⟨go i hlt, fun H' => ∃ n', n' < items.length - i ∧ Wv (i + 1) n' H', fun H' z => z, fun x H' hy => ?_⟩
          have ed : items.drop i = items[i] :: items.drop (i + 1) := List.drop_eq_getElem_cons hlt
          rw [ed] at hc
          unfold compL at hc
          cases ea : asgT t items[i] (wipeE vs ei) with
          | none => rw [ea] at hc; cases hc
          | some e1 =>
            rw [ea] at hc
            dsimp only at hc
            refine asg_of T Ri hs ea (yld i _ x H' (List.getElem?_eq_getElem hlt) hy) fun w3 σ3 R3 x3 same => ?_
            have Va3 := Va.ext x3 (fun _ z => by cases z) Ri.dz
            have x13 := xi.trans (x3.mono fun j hj => lv j (hv j hj))
            have hwipe : L2.wipe σ3 vs = L2.wipe σ vs := by
              have hlen : σ3.length = σ.length := by
                have h1 := R3.len
                have h2 := Ri.len
                rw [wipe_length] at h2
                have h3 := asgT_len ea
                omega
              refine List.ext_getElem? fun j => ?_
              rw [wipe_get, wipe_get, hlen]
              by_cases hj : j ∈ vs
              · by_cases hl : j < σ.length
                · rw [if_pos ⟨hj, hl⟩, if_pos ⟨hj, hl⟩]
                · rw [if_neg fun z => hl z.2, if_neg fun z => hl z.2, List.getElem?_eq_none (by omega), List.getElem?_eq_none (by omega)]
              · rw [if_neg fun z => hj z.1, if_neg fun z => hj z.1, same j fun z => hj (hv j z), wipe_get, if_neg fun z => hj z.1]
            refine ⟨hwipe, ?_⟩
            -- behind a turn: the def's state wiped again
            have again : ∀ (w5 : Wd) (e5 : Ev) (acc5 : List D) (L5 : List Addr), Rel G ms lk w5 e5 σ3 → ValR G w5 (.lst acc5) (.ref q) (q :: L5) (.own (m + 1)) → Ext (vs ++ (Et ++ Ee)) w1 w5 → (∀ a ∈ L5, w1.H a ≠ none → ∃ j ∈ vs ++ (Et ++ Ee), a ∈ w1.Ls j) → acc5.length ≤ i + 1 →
                compL t tt ce vs (items.drop (i + 1)) acc5 e5 = some (.ok accF eF) → ∃ n', n' < items.length - i ∧ Wv (i + 1) n' w5.H := by
              intro w5 e5 acc5 L5 R5 V5 x5 n5 hl5 hc5
              obtain ⟨w6, b1, b2, b3, b4, R6⟩ := R5.wipe vs hp
              have x6 : Ext vs w5 w6 := .wiped b1 b2 b3 b4
              rw [hwipe] at R6
              exact ⟨items.length - (i + 1), by omega, w6, e5, acc5, L5, b2, R6, V5.ext x6 (fun _ z => by cases z) R5.dz, x5.trans (x6.mono lv), n5, hlt, hl5, rfl, hc5⟩
            cases et : tt e1 with
            | none => rw [et] at hc; cases hc
            | some ot =>
              rw [et] at hc
              refine ⟨w3, e1, ot, rfl, R3, et, ?_⟩
              cases ot with
              | ex x e2 => cases hc
              | ok b e2 =>
                intro w4 R4 x4
                have Va4 := Va3.ext x4 (fun _ z => by cases z) R3.dz
                have x14 := x13.trans (x4.mono lt)
                cases b with
                | false =>
                  rw [if_neg Bool.false_ne_true]
                  exact again w4 e2 acc La R4 Va4 x14 nw (by omega) hc
                | true =>
                  rw [if_pos rfl]
                  dsimp only at hc
                  cases ee : ce e2 with
                  | none => rw [ee] at hc; cases hc
                  | some oe =>
                    rw [ee] at hc
                    refine ⟨w4, e2, oe, rfl, R4, ee, ?_⟩
                    cases oe with
                    | ex x e3 => cases hc
                    | ok y e3 =>
                      intro w5 v5 L5 R5 x5 V5 n5
                      have Va5 := Va4.ext x5 (fun _ z => by cases z) R4.dz
                      obtain ⟨⟨q0, ys, L', e0, g1, g2, g3, g4⟩, g5, g6⟩ := Va5
                      cases e0
                      cases g3
                      obtain ⟨V51, V52, V53⟩ := V5
                      have hqL : q ∉ La := (List.nodup_cons.mp g5).1
                      have hz5 := (g6 q List.mem_cons_self)
                      have hq5 : w4.H q ≠ none := fun z => Va4.1.here q List.mem_cons_self (unl_none.mpr z)
                      have hqL5 : q ∉ L5 := fun z => by
                        obtain ⟨j, _, hj⟩ := n5 q z hq5
                        exact (Va4.2.2 q List.mem_cons_self).2.1 j hj
                      have hsz2 : acc.length < sizeLine := by omega
                      refine ⟨ys, unl_lst g1, by rw [g4.length]; exact hsz2, ?_⟩
                      have R6 := R5.mut (q := q) (o := .lst (ys ++ [v5])) hz5.1 hz5.2.1 rfl (fun _ z => by cases z)
                      have hdis : ∀ a ∈ La, a ∉ L5 := fun a h1 h2 => by
                        have hn : w4.H a ≠ none := fun z => Va4.1.here a (List.mem_cons_of_mem _ h1) (unl_none.mpr z)
                        obtain ⟨j, _, hj⟩ := n5 a h2 hn
                        exact (Va4.2.2 a (List.mem_cons_of_mem _ h1)).2.1 j hj
                      refine again ⟨w5.Z, upd w5.H q (.lst (ys ++ [v5])), w5.Ls⟩ e3 (acc ++ [y]) (La ++ L5) R6 ⟨⟨q, ys ++ [v5], La ++ L5, rfl, unl_of upd_same rfl, by rw [List.length_append, List.length_singleton]; omega, rfl, ?_⟩, ?_, fun a ha => ?_⟩ ?_ (fun a ha hn => ?_) (by rw [List.length_append, List.length_singleton]; omega) hc
                      · have fr : ∀ a, a ≠ q → unl (upd w5.H q (.lst (ys ++ [v5]))) a = unl w5.H a := fun a ha => unl_eq (upd_ne ha)
                        refine (g4.imp fun d v l _ r hl => r.frame (fun _ _ z => z) fun a ha => fr a fun z => hqL (by rw [← z]; exact hl a ha)).append (Al3.one ?_)
                        exact V51.frame (fun _ _ z => z) fun a ha => fr a fun z => hqL5 (by rw [← z]; exact ha)
                      · refine List.nodup_cons.mpr ⟨fun z => (List.mem_append.mp z).elim hqL hqL5, List.nodup_append.mpr ⟨(List.nodup_cons.mp g5).2, V52, fun a ha b hb e => hdis a ha (by rw [e]; exact hb)⟩⟩
                      · show w5.Z a = none ∧ (∀ j, a ∉ w5.Ls j) ∧ unl (upd w5.H q (.lst (ys ++ [v5]))) a = upd w5.H q (.lst (ys ++ [v5])) a
                        by_cases hz : a = q
                        · subst hz
                          exact ⟨hz5.1, hz5.2.1, by rw [unl_of (H := upd w5.H a (.lst (ys ++ [v5]))) upd_same rfl]; exact upd_same.symm⟩
                        · rw [unl_eq (upd_ne hz), upd_ne hz]
                          rcases List.mem_append.mp ((List.mem_cons.mp ha).resolve_left hz) with ha | ha
                          · exact g6 a (List.mem_cons_of_mem _ ha)
                          · exact V53 a ha
                      · have x15 := x14.trans (x5.mono le)
                        have hq1 : w1.H q = none := hq
                        have nq : ∀ a, w1.H a ≠ none → a ≠ q := fun a h z => h (by rw [z]; exact hq1)
                        refine ⟨x15.zz, fun a o e n => ?_, x15.zn, x15.ll, x15.ln, fun a h => ?_⟩
                        · show upd w5.H q _ a = some o ∨ (_ ∧ _ ∧ ∃ od, upd w5.H q _ a = some (.frz od o))
                          rw [upd_ne (nq a (by rw [e]; simp))]
                          exact x15.hh a o e n
                        · show upd w5.H q _ a ≠ none
                          rw [upd_ne (nq a h)]
                          exact x15.al a h
                      · rcases List.mem_append.mp ha with ha | ha
                        · exact nw a ha hn
                        · obtain ⟨j, hj, hj2⟩ := n5 a ha (x14.al a hn)
                          have hj := hj.resolve_right (by simp)
                          obtain ⟨i2, h2, h3⟩ := x14.back hj2 hn
                          rcases h3 with rfl | h3
                          · exact ⟨i2, le _ hj, h2⟩
                          · exact ⟨i2, h3, h2⟩
        · have e : i = items.length := by omega
          subst e
          rw [List.drop_length] at hc
          cases hc
          refine .inl ⟨stop, F wi (.ref q) (q :: La) (Ri.unwipe hp) ((x1.mono l1).trans (xi.mono l2)) Va fun a ha hn => ?_⟩
          rcases List.mem_cons.mp ha with rfl | ha
          · exact absurd hq (x1.al a hn)
          · obtain ⟨j, hj, h2⟩ := nw a ha (x1.al a hn)
            obtain ⟨i2, h3, h4⟩ := x1.back h2 hn
            rcases h4 with rfl | h4
            · exact ⟨i2, .inl (l2 _ hj), h3⟩
            · exact ⟨i2, .inl (l1 _ h4), h3⟩
      · cases ho1
    · cases ho1
  · exact ⟨w, env, _, hH, Rl, he, fun w' p R' x' P => F w' p R' (x'.mono l1) P⟩
end
end PD
namespace PD
open PySem PySem.Spec PyProof.Rows L2 GF
/-! ### comprehensions as expressions, as stores -/
section
variable {X : Cx} {K : PySem.W.Frag} {G : Gc} {ms lk ms' : List Nat} {k ka kb : Kd} {bs E E1 Ea Eb Ei Et Ee : List Nat} {R : Rt} {XE : XK} {pos p tpos : Pos} {a b e tg iter elt : Expr} {es elts ifs : List Expr} {ca cb ce : DE} {cs : DA} {c : DS} {body : List Stmt} {Dn : Ends} {kk : Nat} {scope : Scope} {own : List (Str × Nat)}
def bYes : DB := fun e => some (.ok true e)
theorem st_yes : PTs X [] (tT G ms lk [] E0 bYes) := ⟨fun pins s σ H Q I h => pts_nil.run pins s σ H Q I (by
  obtain ⟨w, env, o, hH, R, ho, F⟩ := h
  cases ho
  rw [← hH]
  exact F w R .refl)⟩
theorem st_one {tt : DB} (h : PT X e (tT G ms lk Et E0 tt)) : PTs X [e] (tT G ms lk Et E0 tt) := pts_one h
theorem se_lc {t : Tg} {g : TG} {tt : DB} (m : Nat) (T : TgS G.K t g) (hc : X.calm = true) (hN : X.N.Nodup) (hi : PI X tg iter (tI G ms lk bs Ei XE cs)) (ok : BlkOk X.N X.env.scope scope own)
    (hg : ∀ (s : Shared) (H : Hp) (C : Addr) (cl : List (Str × Addr)) (fp : List Addr), PG (X.blk s H scope (compEnvC scope cl C X.env) fp) tg g) (ht : ∀ (s : Shared) (H : Hp) (C : Addr) (cl : List (Str × Addr)) (fp : List Addr), PTs (X.blk s H scope (compEnvC scope cl C X.env) fp) ifs (tT G ms lk Et E0 tt))
    (he : ∀ (s : Shared) (H : Hp) (C : Addr) (cl : List (Str × Addr)) (fp : List Addr), PE (X.blk s H scope (compEnvC scope cl C X.env) fp) elt (tD G ms lk (.own m) Ee E0 ce))
    (hs : ∀ i ∈ t.sl, i < ms.length ∧ ms.set i 0 = ms ∧ i ∉ G.pins := by try dsimp only; decide +kernel) (hv : ∀ i ∈ t.sl, i ∈ own.map (·.2) := by decide) (hp : ∀ i ∈ own.map (·.2), i ∉ G.pins := by try dsimp only; decide +kernel) (hd : ∀ j ∈ bs, j ∉ own.map (·.2) ++ (Et ++ Ee) := by decide)
    (hf : ∀ x, foldedSetIterable iter X.env x = pure x := by intro _; rfl) :
    PE X (.ListComp elt [⟨tg, iter, ifs, 0⟩] scope pos) (tD G ms lk (.own (m + 1)) (Ei ++ (own.map (·.2) ++ (Et ++ Ee))) XE (dLc cs t tt ce (own.map (·.2)))) :=
  PE.weak (pe_lc hc hN hi ok hg ht he hf) fun _ _ _ h => tLc_of T hs hv hp hd h
/-- name = [..] -/
theorem ss_setLc {t : Tg} {g : TG} {tt : DB} {i : Nat} {y : Str} {py spos : Pos} (m : Nat) (T : TgS G.K t g) (hc : X.calm = true) (hN : X.N.Nodup) (hy : X.N[i]? = some y) (hyl : X.env.scope.names.lookup y = some .local)
    (hsw : swapsWith (.ListComp elt [⟨tg, iter, ifs, 0⟩] scope pos) (some (.Name y py)) spos.line X.env = pure true) (hi : PI X tg iter (tI G ms lk bs Ei XE cs)) (ok : BlkOk X.N X.env.scope scope own)
    (hg : ∀ (s : Shared) (H : Hp) (C : Addr) (cl : List (Str × Addr)) (fp : List Addr), PG (X.blk s H scope (compEnvC scope cl C X.env) fp) tg g) (ht : ∀ (s : Shared) (H : Hp) (C : Addr) (cl : List (Str × Addr)) (fp : List Addr), PTs (X.blk s H scope (compEnvC scope cl C X.env) fp) ifs (tT G ms lk Et E0 tt))
    (he : ∀ (s : Shared) (H : Hp) (C : Addr) (cl : List (Str × Addr)) (fp : List Addr), PE (X.blk s H scope (compEnvC scope cl C X.env) fp) elt (tD G ms lk (.own m) Ee E0 ce))
    (hs : ∀ i ∈ t.sl, i < ms.length ∧ ms.set i 0 = ms ∧ i ∉ G.pins := by try dsimp only; decide +kernel) (hv : ∀ i ∈ t.sl, i ∈ own.map (·.2) := by decide) (hp : ∀ i ∈ own.map (·.2), i ∉ G.pins := by try dsimp only; decide +kernel) (hd : ∀ j ∈ bs, j ∉ own.map (·.2) ++ (Et ++ Ee) := by decide)
    (hi2 : i < ms.length := by decide) (hp2 : i ∉ G.pins := by try dsimp only; decide +kernel) (hf : ∀ x, foldedSetIterable iter X.env x = pure x := by intro _; rfl) :
    PS X (.Assign [.Name y py] (.ListComp elt [⟨tg, iter, ifs, 0⟩] scope pos) spos) (tS G ms lk (ms.set i (m + 1)) (i :: (Ei ++ (own.map (·.2) ++ (Et ++ Ee)))) R XE (sSet i (dLc cs t tt ce (own.map (·.2))))) :=
  PS.weak (ps_setLc hc hN hy hyl hsw hi ok hg ht he hf) fun _ _ _ h => tLc_of T hs hv hp hd (tSet_of hi2 hp2 h)
/-- .. frozen at once -/
theorem ss_setLc0 {t : Tg} {g : TG} {tt : DB} {i : Nat} {y : Str} {py spos : Pos} (m : Nat) (T : TgS G.K t g) (hc : X.calm = true) (hN : X.N.Nodup) (hy : X.N[i]? = some y) (hyl : X.env.scope.names.lookup y = some .local)
    (hsw : swapsWith (.ListComp elt [⟨tg, iter, ifs, 0⟩] scope pos) (some (.Name y py)) spos.line X.env = pure true) (hi : PI X tg iter (tI G ms lk bs Ei XE cs)) (ok : BlkOk X.N X.env.scope scope own)
    (hg : ∀ (s : Shared) (H : Hp) (C : Addr) (cl : List (Str × Addr)) (fp : List Addr), PG (X.blk s H scope (compEnvC scope cl C X.env) fp) tg g) (ht : ∀ (s : Shared) (H : Hp) (C : Addr) (cl : List (Str × Addr)) (fp : List Addr), PTs (X.blk s H scope (compEnvC scope cl C X.env) fp) ifs (tT G ms lk Et E0 tt))
    (he : ∀ (s : Shared) (H : Hp) (C : Addr) (cl : List (Str × Addr)) (fp : List Addr), PE (X.blk s H scope (compEnvC scope cl C X.env) fp) elt (tD G ms lk (.own m) Ee E0 ce))
    (hs : ∀ i ∈ t.sl, i < ms.length ∧ ms.set i 0 = ms ∧ i ∉ G.pins := by try dsimp only; decide +kernel) (hv : ∀ i ∈ t.sl, i ∈ own.map (·.2) := by decide) (hp : ∀ i ∈ own.map (·.2), i ∉ G.pins := by try dsimp only; decide +kernel) (hd : ∀ j ∈ bs, j ∉ own.map (·.2) ++ (Et ++ Ee) := by decide)
    (hi2 : i < ms.length := by decide) (hp2 : i ∉ G.pins := by try dsimp only; decide +kernel) (hf : ∀ x, foldedSetIterable iter X.env x = pure x := by intro _; rfl) :
    PS X (.Assign [.Name y py] (.ListComp elt [⟨tg, iter, ifs, 0⟩] scope pos) spos) (tS G ms lk (ms.set i 0) (i :: (Ei ++ (own.map (·.2) ++ (Et ++ Ee)))) R XE (sSet i (dLc cs t tt ce (own.map (·.2))))) :=
  PS.weak (ps_setLc hc hN hy hyl hsw hi ok hg ht he hf) fun Dn σ H h => tLc_of T hs hv hp hd (by
    obtain ⟨w, env, o, hH, Rl, ho, F⟩ := tSet_of (m := 0) hi2 hp2 h
    refine ⟨w, env, o, hH, Rl, ho, ?_⟩
    cases o with
    | ex x e => exact F
    | ok d env' =>
      intro w' v L R' x V n
      obtain ⟨h1, h2, h3⟩ := V
      refine F ⟨pl w'.Z (unl w'.H) L, w'.H, w'.Ls⟩ v [] (R'.grow fun a ha => ⟨(h3 a ha).1, (h3 a ha).2.1⟩) ⟨fun a o e => ?_, x.hh, fun a z1 z2 z3 => ?_, x.ll, x.ln, x.al⟩ ⟨⟨rfl, ?_⟩, List.nodup_nil, fun _ z => by cases z⟩ .nil
      · exact pl_same (fun a ha => (h3 a ha).1) _ _ (x.zz _ _ e)
      · by_cases ha : a ∈ L
        · obtain ⟨j, hj, q⟩ := n a ha z3
          rcases hj with hj | hj
          · exact ⟨j, hj, q⟩
          · cases hj
        · have z1' : pl w'.Z (unl w'.H) L a ≠ none := z1
          unfold pl at z1'
          rw [if_neg ha] at z1'
          exact x.zn a z1' z2 z3
      · exact h1.frz (pl_same fun a ha => (h3 a ha).1) fun a ha => pl_in ha)
end
/-! ### built-in functions -/
section
variable {X : Cx} {G : Gc}
def lenD : D → Option Nat
  | .lst ds => some ds.length
  | .tup ds => some ds.length
  | .scr ns => some ns.length
  | .str s => if s.length ≤ sizeLine then some s.length else none
  | .dct ks => some ks.length
  | _ => none
def one1 {α : Type} (f : D → Option α) : List D → Option α
  | [d] => f d
  | _ => none
theorem one1_some {α : Type} {f : D → Option α} {ds : List D} {z : α} (h : one1 f ds = some z) : ∃ d, ds = [d] ∧ f d = some z := by
  match ds, h with
  | [d], h => exact ⟨d, rfl, h⟩
  | [], h => cases h
  | _ :: _ :: _, h => cases h
def gLen : List D → Option D := one1 fun d => (lenD d).map fun n => .int (n : Nat)
theorem call_lenDr : CallR X (.builtin "len") (fun xs H Q => ∃ a kvs, xs = [V.ref a] ∧ Rd H a (.dK kvs) ∧ Q (.int kvs.length) H) := by
  intro pins s σ H xs us Q I r h
  obtain ⟨a, kvs, rfl, ha, q⟩ := h
  obtain ⟨u, rfl, ru⟩ := vals1 r
  cases ru
  exact d_len I ha fun t s' I' => ⟨.int kvs.length, H, I', ⟨t, rfl⟩, q⟩
def rLenV (K : PySem.W.Frag) : List V → Hp → VK → Prop := fun xs H Q => (∃ x n, xs = [x] ∧ LenV K x H n ∧ Q (.int n) H) ∨ ∃ a kvs, xs = [V.ref a] ∧ Rd H a (.dK kvs) ∧ Q (.int kvs.length) H
theorem call_lenV : CallR X (.builtin "len") (rLenV X.K) := call_len.or call_lenDr
theorem v_len : VN G (rLenV G.K) gLen := fun H vs ds d Q hv e => by
  obtain ⟨d0, rfl, e⟩ := one1_some e
  obtain ⟨v, r, rfl, h1, h2⟩ := hv
  cases (show r = [] from h2)
  obtain ⟨n, hn, rfl⟩ := Option.map_eq_some_iff.mp e
  refine ⟨_, rfl, fun q => ?_⟩
  cases d0 with
  | lst ds =>
    cases hn
    obtain ⟨a, xs, rfl, g1, g2, g3⟩ := h1
    exact .inl ⟨_, ds.length, rfl, .inl ⟨xs, .inl (.inl (unl_lst g1)), g3.len.symm⟩, q⟩
  | tup ds =>
    cases hn
    obtain ⟨a, xs, rfl, g1, g2, g3⟩ := h1
    exact .inl ⟨_, ds.length, rfl, .inr ⟨xs, .inl (.inl (unl_tup g1)), g3.len.symm⟩, q⟩
  | scr ns =>
    cases hn
    obtain ⟨a, rfl, g1⟩ := h1
    exact .inl ⟨_, ns.length, rfl, .inl ⟨_, unl_sqL g1, (List.length_map _).symm⟩, q⟩
  | str s =>
    simp only [lenD] at hn
    split at hn
    · rename_i hl
      cases hn
      cases (show _ = _ from h1)
      exact .inl ⟨_, s.length, rfl, ⟨hl, rfl⟩, q⟩
    · cases hn
  | dct ks =>
    cases hn
    obtain ⟨a, xs, rfl, g1, g2, g3⟩ := h1
    have : ks.length = xs.length := g3.e.len.symm
    rw [this] at q
    exact .inr ⟨a, xs, rfl, unl_dK g1, q⟩
  | _ => cases hn
/-- a list of truth values, of ints -/
def blsOf : List D → Option (List Bool)
  | [] => some []
  | .bl b :: ds => (blsOf ds).map (b :: ·)
  | _ => none
def intsOf : List D → Option (List Int)
  | [] => some []
  | .int b :: ds => (intsOf ds).map (b :: ·)
  | _ => none
def strsOf : List D → Option (List Str)
  | [] => some []
  | .str b :: ds => (strsOf ds).map (b :: ·)
  | _ => none
theorem blsOf_fz {K : PySem.W.Frag} {CA : Str → Addr} {Z : Hp} : ∀ {ds : List D} {vs : List V} {bs : List Bool}, FzA K CA Z ds vs → blsOf ds = some bs → vs = bs.map V.bl
  | [], _, _, h, e => by cases e; exact h
  | d :: ds, _, _, h, e => by
    obtain ⟨v, r, rfl, h1, h2⟩ := h
    cases d with
    | bl b =>
      obtain ⟨bs, hb, rfl⟩ := Option.map_eq_some_iff.mp (show (blsOf ds).map (b :: ·) = _ from e)
      rw [blsOf_fz h2 hb, show v = .bl b from h1]; rfl
    | _ => cases e
theorem intsOf_fz {K : PySem.W.Frag} {CA : Str → Addr} {Z : Hp} : ∀ {ds : List D} {vs : List V} {bs : List Int}, FzA K CA Z ds vs → intsOf ds = some bs → vs = bs.map V.int
  | [], _, _, h, e => by cases e; exact h
  | d :: ds, _, _, h, e => by
    obtain ⟨v, r, rfl, h1, h2⟩ := h
    cases d with
    | int b =>
      obtain ⟨bs, hb, rfl⟩ := Option.map_eq_some_iff.mp (show (intsOf ds).map (b :: ·) = _ from e)
      rw [intsOf_fz h2 hb, show v = .int b from h1]; rfl
    | _ => cases e
theorem strsOf_fz {K : PySem.W.Frag} {CA : Str → Addr} {Z : Hp} : ∀ {ds : List D} {vs : List V} {bs : List Str}, FzA K CA Z ds vs → strsOf ds = some bs → vs = bs.map V.str
  | [], _, _, h, e => by cases e; exact h
  | d :: ds, _, _, h, e => by
    obtain ⟨v, r, rfl, h1, h2⟩ := h
    cases d with
    | str b =>
      obtain ⟨bs, hb, rfl⟩ := Option.map_eq_some_iff.mp (show (strsOf ds).map (b :: ·) = _ from e)
      rw [strsOf_fz h2 hb, show v = .str b from h1]; rfl
    | _ => cases e
def lstOf : D → Option (List D)
  | .lst ds => some ds
  | _ => none
def gAll : List D → Option D := one1 fun d => ((lstOf d).bind blsOf).map fun bs => .bl (bs.all id)
def gAny : List D → Option D := one1 fun d => ((lstOf d).bind blsOf).map fun bs => .bl (bs.any id)
def gSum : List D → Option D := one1 fun d => ((lstOf d).bind intsOf).map fun ns => .int ns.sum
theorem lst_bind {α β : Type} {d : D} {f : List D → Option α} {g : α → β} {z : β} (e : ((lstOf d).bind f).map g = some z) : ∃ ds bs, d = .lst ds ∧ f ds = some bs ∧ z = g bs := by
  obtain ⟨bs, hb, rfl⟩ := Option.map_eq_some_iff.mp e
  cases d with
  | lst ds => exact ⟨ds, bs, rfl, hb, rfl⟩
  | _ => cases hb
theorem v_all : VN G (rAll G.K) gAll := fun H vs ds d Q hv e => by
  obtain ⟨d0, rfl, e⟩ := one1_some e
  obtain ⟨v, r, rfl, h1, h2⟩ := hv
  cases (show r = [] from h2)
  obtain ⟨ds, bs, rfl, hb, rfl⟩ := lst_bind e
  obtain ⟨a, xs, rfl, g1, g2, g3⟩ := h1
  exact ⟨_, rfl, fun q => ⟨a, bs, rfl, by rw [← blsOf_fz g3 hb]; exact .inl (.inl (unl_lst g1)), q⟩⟩
theorem v_any : VN G (rAny G.K) gAny := fun H vs ds d Q hv e => by
  obtain ⟨d0, rfl, e⟩ := one1_some e
  obtain ⟨v, r, rfl, h1, h2⟩ := hv
  cases (show r = [] from h2)
  obtain ⟨ds, bs, rfl, hb, rfl⟩ := lst_bind e
  obtain ⟨a, xs, rfl, g1, g2, g3⟩ := h1
  exact ⟨_, rfl, fun q => ⟨a, bs, rfl, by rw [← blsOf_fz g3 hb]; exact .inl (.inl (unl_lst g1)), q⟩⟩
theorem v_sum : VN G (rSum G.K) gSum := fun H vs ds d Q hv e => by
  obtain ⟨d0, rfl, e⟩ := one1_some e
  obtain ⟨v, r, rfl, h1, h2⟩ := hv
  cases (show r = [] from h2)
  obtain ⟨ds, bs, rfl, hb, rfl⟩ := lst_bind e
  obtain ⟨a, xs, rfl, g1, g2, g3⟩ := h1
  exact ⟨_, rfl, fun q => ⟨a, bs, rfl, by rw [← intsOf_fz g3 hb]; exact .inl (.inl (unl_lst g1)), q⟩⟩
def gMax2 : List D → Option D
  | [.int i, .int j] => some (.int (if j > i then j else i))
  | _ => none
def gMin2 : List D → Option D
  | [.int i, .int j] => some (.int (if j < i then j else i))
  | _ => none
theorem v_max2 : VN G (fun xs H Q => ∃ i j, xs = [.int i, .int j] ∧ Q (.int (if j > i then j else i)) H) gMax2 := fun H vs ds d Q hv e => by
  unfold gMax2 at e
  split at e
  · cases e
    obtain ⟨v, r, rfl, h1, v2, r2, rfl, h2, h3⟩ := hv
    cases (show r2 = [] from h3)
    exact ⟨_, rfl, fun q => ⟨_, _, by rw [show v = _ from h1, show v2 = _ from h2], q⟩⟩
  · cases e
theorem v_min2 : VN G (fun xs H Q => ∃ i j, xs = [.int i, .int j] ∧ Q (.int (if j < i then j else i)) H) gMin2 := fun H vs ds d Q hv e => by
  unfold gMin2 at e
  split at e
  · cases e
    obtain ⟨v, r, rfl, h1, v2, r2, rfl, h2, h3⟩ := hv
    cases (show r2 = [] from h3)
    exact ⟨_, rfl, fun q => ⟨_, _, by rw [show v = _ from h1, show v2 = _ from h2], q⟩⟩
  · cases e
def gAbs : List D → Option D := one1 fun d => match d with
  | .int i => some (.int (if i < 0 then -i else i))
  | _ => none
theorem v_abs : VN G (fun xs H Q => ∃ i, xs = [.int i] ∧ Q (.int (if i < 0 then -i else i)) H) gAbs := fun H vs ds d Q hv e => by
  obtain ⟨d0, rfl, e⟩ := one1_some e
  obtain ⟨v, r, rfl, h1, h2⟩ := hv
  cases (show r = [] from h2)
  cases d0 with
  | int i => cases e; exact ⟨_, rfl, fun q => ⟨i, by rw [show v = _ from h1], q⟩⟩
  | _ => cases e
def gInt : List D → Option D := one1 fun d => match d with
  | .int i => some (.int i)
  | .bl b => some (.int (if b then 1 else 0))
  | _ => none
theorem v_int : VN G (fun xs H Q => (∃ i, xs = [.int i] ∧ Q (.int i) H) ∨ ∃ k, xs = [.bl k] ∧ Q (.int (if k then 1 else 0)) H) gInt := fun H vs ds d Q hv e => by
  obtain ⟨d0, rfl, e⟩ := one1_some e
  obtain ⟨v, r, rfl, h1, h2⟩ := hv
  cases (show r = [] from h2)
  cases d0 with
  | int i => cases e; exact ⟨_, rfl, fun q => .inl ⟨i, by rw [show v = _ from h1], q⟩⟩
  | bl b => cases e; exact ⟨_, rfl, fun q => .inr ⟨b, by rw [show v = _ from h1], q⟩⟩
  | _ => cases e
end
end PD
namespace PD
open PySem PySem.Spec PyProof.Rows L2 GF
/-! ### new lists: slices, list(), +, sorted, reversed -/
section
variable {X : Cx} {K : PySem.W.Frag} {G : Gc} {ms lk ms' : List Nat} {k ka kb : Kd} {ks : List Kd} {bs E E1 Ea Eb El Eh : List Nat} {XE : XK} {pos p p1 p2 p3 : Pos} {a b e : Expr} {lo hi : Option Expr} {es : List Expr} {ca cb : DE} {cs : DA}
theorem fresh_lst {w w1 : Wd} {env1 : Ev} {σ : L2.St} {Q : VK} {ds : List D} {xs : List V} (F : Fin G ms lk (.own 1) E XE w σ Q (.ok (.lst ds) env1)) (R1 : Rel G ms lk w1 env1 σ) (x1 : Ext E w w1) (h : FzA G.K G.CA w1.Z ds xs) (hl : ds.length ≤ sizeLine) : ∀ q, w1.H q = none → Q (.ref q) (upd w1.H q (.lst xs)) := fun q hq =>
  fin_own (m := 0) (L := []) F R1 x1 .nil List.nodup_nil (fun _ z => by cases z) hq rfl (fun _ z => by cases z) (fun _ z => by cases z) fun h' e1 e2 => ⟨q, xs, [], rfl, e1, hl, rfl, by
    have al : ∀ {ds : List D} {xs : List V}, FzA G.K G.CA w1.Z ds xs → Al3 (Ow G.K G.CA w1.Z h' 0) ds xs [] := by
      intro ds
      induction ds with
      | nil => intro xs h; exact ⟨h, rfl⟩
      | cons d ds ih =>
        intro xs h
        obtain ⟨v, r, rfl, h1, h2⟩ := h
        exact ⟨v, r, [], [], rfl, rfl, ⟨rfl, h1⟩, ih h2⟩
    exact al h⟩
theorem ValR.kids {w : Wd} {ds : List D} {v : V} {L : List Addr} (h : ValR G w (.lst ds) v L k) (ok : k.okc = true) (hc : k.chi = .own 0) (s : Same w.Z (unl w.H)) : ∃ a xs, v = .ref a ∧ w.H a = some (.lst xs) ∧ ds.length ≤ sizeLine ∧ FzA G.K G.CA w.Z ds xs := by
  obtain ⟨a, xs, rfl, h1, h2, h3, h4⟩ := h.lst ok s
  refine ⟨a, xs, rfl, unl_lst h1, h2, ?_⟩
  have all : ∀ (n : Nat) (ds : List D) (xs : List V), xs.length = ds.length → ds.length = n → (∀ (j : Nat) (d : D), ds[j]? = some d → ∃ u, xs[j]? = some u ∧ Fz G.K G.CA w.Z d u) → FzA G.K G.CA w.Z ds xs := by
    intro n
    induction n with
    | zero =>
      intro ds xs h1 h2 _
      cases List.length_eq_zero_iff.mp h2
      exact List.length_eq_zero_iff.mp h1
    | succ n ih =>
      intro ds xs h1 h2 h
      cases ds with
      | nil => cases h2
      | cons d ds =>
        cases xs with
        | nil => cases h1
        | cons x xs =>
          obtain ⟨u, e, q⟩ := h 0 d rfl
          cases e
          exact ⟨x, xs, rfl, q, ih ds xs (by simpa using h1) (by simpa using h2) fun j d e => h (j + 1) d e⟩
  exact all _ ds xs h3 rfl fun j d e => let ⟨u, e1, q⟩ := h4 j d e; ⟨u, e1, q.fz hc⟩
/-! parts of a slice -/
abbrev DO := Ev → Option (Out (Option Int))
def oNone : DO := lf (some none)
def oSome (a : DE) : DO := bnd a fun d => lf (match d with | .int i => some (some i) | _ => none)
def FinO (G : Gc) (ms lk : List Nat) (E : List Nat) (XE : XK) (w : Wd) (σ : L2.St) (Q : Option Int → Hp → Prop) : Out (Option Int) → Prop
  | .ok b env' => ∀ w', Rel G ms lk w' env' σ → Ext E w w' → Q b w'.H
  | .ex x env' => ∀ w' p, Rel G ms lk w' env' σ → Ext E w w' → Pay G w' x p → XE (.ref (G.CA x.c)) p w'.H
def tO (G : Gc) (ms lk : List Nat) (E : List Nat) (XE : XK) (c : DO) : TO := fun σ H Q => ∃ w env o, w.H = H ∧ Rel G ms lk w env σ ∧ c env = some o ∧ FinO G ms lk E XE w σ Q o
theorem _root_.L2.PO.weak {X : Cx} {e : Option Expr} {t t' : TO} (h : PO X e t) (i : ∀ σ H Q, t' σ H Q → t σ H Q) : PO X e t' := ⟨fun pins s σ H Q I q => h.run pins s σ H Q I (i σ H Q q)⟩
theorem so_none : PO X none (tO G ms lk [] XE oNone) := po_none.weak fun σ H Q ⟨w, env, o, hH, R, ho, F⟩ => by
  cases ho
  rw [← hH]
  exact F w R .refl
theorem so_some (ha : PE X a (tD G ms lk k Ea XE ca)) : PO X (some a) (tO G ms lk Ea XE (oSome ca)) := (po_some ha).weak fun σ H Q ⟨w, env, o, hH, R, ho, F⟩ => by
  rw [← hH]
  refine tD.bindG (FF := fun w o => FinO G ms lk Ea XE w σ Q o) R ho F (fun w1 x F => ?_) (fun x e eo F w' p R' x' P => by subst eo; exact F w' p R' x' P) fun w1 env1 d v L R1 x1 V1 n1 ho1 F1 => ?_
  · cases o with
    | ok b e => exact fun w' R' x' => F w' R' (x.trans x')
    | ex y e => exact fun w' p R' x' => F w' p R' (x.trans x')
  · obtain ⟨z, hz, rfl⟩ := lf_some ho1
    cases d with
    | int i => cases hz; exact ⟨i, V1.rd R1.sub, F1 w1 R1 .refl⟩
    | _ => cases hz
def cutD (ds : List D) (lo hi : Option Int) : List D := (ds.drop (HT.sIx ds.length 0 lo)).take (HT.sIx ds.length ds.length hi - HT.sIx ds.length 0 lo)
def gSl (d : D) (lo hi : Option Int) : Option D := match d with
  | .lst ds => some (.lst (cutD ds lo hi))
  | .str s => if s.length ≤ sizeLine then some (.str (cutS s lo hi)) else none
  | _ => none
def dSl (a : DE) (l h : DO) : DE := bnd a fun d => bnd l fun i => bnd h fun j => lf (gSl d i j)
theorem tO.bindG {β : Type} {FF : Wd → Out β → Prop} {E1 : List Nat} {w : Wd} {env : Ev} {σ : L2.St} {P : Option Int → Hp → Prop} {c : DO} {f : Option Int → Ev → Option (Out β)} {o : Out β} (R : Rel G ms lk w env σ) (ho : bnd c f env = some o) (F : FF w o)
    (hs : ∀ w1, Ext E1 w w1 → FF w o → FF w1 o) (hx : ∀ x e, o = .ex x e → FF w o → ∀ w' p, Rel G ms lk w' e σ → Ext E1 w w' → Pay G w' x p → XE (.ref (G.CA x.c)) p w'.H)
    (hp : ∀ w1 env1 d, Rel G ms lk w1 env1 σ → Ext E1 w w1 → f d env1 = some o → FF w1 o → P d w1.H) : tO G ms lk E1 XE c σ w.H P := by
  unfold bnd at ho
  split at ho
  · rename_i d e1 he
    refine ⟨w, env, .ok d e1, rfl, R, he, fun w' R' x => hp w' e1 d R' x ho (hs w' x F)⟩
  · rename_i x e1 he
    cases ho
    exact ⟨w, env, .ex x e1, rfl, R, he, hx x e1 rfl F⟩
  · cases ho
theorem se_sl {cl ch : DO} (ha : PE X a (tD G ms lk k Ea XE ca)) (hl : PO X lo (tO G ms lk El XE cl)) (hh : PO X hi (tO G ms lk Eh XE ch)) (ok : k.okc = true := by rfl) (hc : k.chi = .own 0 := by rfl) (hd : ∀ j ∈ k.bs, j ∉ El ++ Eh := by decide) (hK : X.K = G.K := by rfl) :
    PE X (.Subscript a (.Slice lo hi none p2) pos) (tD G ms lk (.own 1) (Ea ++ (El ++ Eh)) XE (dSl ca cl ch)) := PE.weak (pe_slice (sl_list.or sl_str) ha hl hh) fun σ H Q ⟨w, env, o, hH, R, ho, F⟩ => by
  have e1 : ∀ j ∈ Ea, j ∈ Ea ++ (El ++ Eh) := fun j hj => List.mem_append_left _ hj
  have e2 : ∀ j ∈ El, j ∈ Ea ++ (El ++ Eh) := fun j hj => List.mem_append_right _ (List.mem_append_left _ hj)
  have e3 : ∀ j ∈ Eh, j ∈ Ea ++ (El ++ Eh) := fun j hj => List.mem_append_right _ (List.mem_append_right _ hj)
  rw [← hH]
  refine tD.bind R ho F e1 fun w1 env1 d v L R1 x1 V1 n1 ho1 F1 => ?_
  refine tO.bindG (FF := fun w o => Fin G ms lk (.own 1) (Ea ++ (El ++ Eh)) XE w σ Q o) R1 ho1 F1 (fun w1 x F => F.step (x.mono e2)) (fun x e eo F w' p R' x' P => by subst eo; exact F w' p R' (x'.mono e2) P) fun w2 env2 i R2 x2 ho2 F2 => ?_
  refine tO.bindG (FF := fun w o => Fin G ms lk (.own 1) (Ea ++ (El ++ Eh)) XE w σ Q o) R2 ho2 F2 (fun w1 x F => F.step (x.mono e3)) (fun x e eo F w' p R' x' P => by subst eo; exact F w' p R' (x'.mono e3) P) fun w3 env3 j R3 x3 ho3 F3 => ?_
  obtain ⟨z, hz, rfl⟩ := lf_some ho3
  have V3 := (V1.ext x2 (fun j hj z => hd j hj (List.mem_append_left _ z)) R1.dz).ext x3 (fun j hj z => hd j hj (List.mem_append_right _ z)) R2.dz
  cases d with
  | lst ds =>
    cases hz
    obtain ⟨a0, xs, rfl, g1, g2, g3⟩ := V3.kids ok hc R3.sub
    refine .inl ⟨a0, xs, rfl, .inl (.inl g1), ?_⟩
    have : cutV xs i j = (xs.drop (HT.sIx ds.length 0 i)).take (HT.sIx ds.length ds.length j - HT.sIx ds.length 0 i) := by
      unfold cutV; rw [g3.len]
    rw [this]
    refine fresh_lst F3 R3 .refl ((g3.drop _).take _) ?_
    unfold cutD
    rw [List.length_take, List.length_drop]
    omega
  | str s =>
    simp only [gSl] at hz
    split at hz
    · rename_i hl
      cases hz
      exact .inr ⟨s, V3.rd R3.sub, hl, F3 w3 _ [] R3 .refl (ValR.atom rfl) .nil⟩
    · cases hz
  | _ => cases hz
def gRev : D → Option D
  | .lst ds => some (.lst ds.reverse)
  | _ => none
theorem FzA.rev {Z : Hp} : ∀ {ds : List D} {xs : List V}, FzA G.K G.CA Z ds xs → FzA G.K G.CA Z ds.reverse xs.reverse
  | [], _, h => by rw [show _ = _ from h]; rfl
  | d :: ds, _, h => by
    obtain ⟨v, r, rfl, h1, h2⟩ := h
    rw [List.reverse_cons, List.reverse_cons]
    exact h2.rev.app ⟨v, [], rfl, h1, rfl⟩
/-- xs[::-1] -/
theorem se_rev {kk : Nat} (ha : PE X a (tD G ms lk k Ea XE ca)) (ok : k.okc = true := by rfl) (hc : k.chi = .own 0 := by rfl) (hK : X.K = G.K := by rfl) :
    PE X (.Subscript a (.Slice none none (some (.UnaryOp .USub (.Constant (.int 1) kk p1) p2)) p3) pos) (tD G ms lk (.own 1) Ea XE (d1 gRev ca)) := PE.weak (pe_revL ha) fun σ H Q ⟨w, env, o, hH, R, ho, F⟩ => by
  rw [← hH]
  refine tD.bind R ho F (fun _ z => z) fun w1 env1 d v L R1 x1 V1 n1 ho1 F1 => ?_
  obtain ⟨z, hz, rfl⟩ := lf_some ho1
  cases d with
  | lst ds =>
    cases hz
    obtain ⟨a0, xs, rfl, g1, g2, g3⟩ := V1.kids ok hc R1.sub
    exact ⟨a0, xs, rfl, .inl (.inl g1), fresh_lst F1 R1 .refl g3.rev (by rw [List.length_reverse]; exact g2)⟩
  | _ => cases hz
def gCat : D → D → Option D
  | .lst xs, .lst ys => if xs.length + ys.length ≤ sizeLine then some (.lst (xs ++ ys)) else none
  | _, _ => none
/-- xs + ys, two lists -/
theorem se_cat (ha : PE X a (tD G ms lk ka Ea XE ca)) (hb : PE X b (tD G ms lk kb Eb XE cb)) (oa : ka.okc = true := by rfl) (ob : kb.okc = true := by rfl) (ha' : ka.chi = .own 0 := by rfl) (hb' : kb.chi = .own 0 := by rfl) (hd : ∀ j ∈ ka.bs, j ∉ Eb := by decide) :
    PE X (.BinOp a .Add b pos) (tD G ms lk (.own 1) (Ea ++ Eb) XE (d2 gCat ca cb)) := PE.weak (pe_op op_cat ha hb) fun σ H Q ⟨w, env, o, hH, R, ho, F⟩ => by
  rw [← hH]
  refine tD.two R ho F (fun j hj => List.mem_append_left _ hj) (fun j hj => List.mem_append_right _ hj) hd fun d d2 z env2 w2 v v2 L L2 ez hz he R2 x2 V1 n1 V2' n2 => ?_
  subst ez
  unfold gCat at hz
  split at hz
  · split at hz
    · rename_i hl
      cases hz
      obtain ⟨a0, xs, rfl, g1, g2, g3⟩ := V1.kids oa ha' R2.sub
      obtain ⟨a1, ys, rfl, g4, g5, g6⟩ := V2'.kids ob hb' R2.sub
      exact ⟨a0, a1, xs, ys, rfl, rfl, g1, g4, by rw [g3.len, g6.len]; exact hl, fresh_lst F R2 x2 (g3.app g6) (by rw [List.length_append]; exact hl)⟩
    · cases hz
  · cases hz
/-- list(xs) -/
def gList : List D → Option D := one1 fun d => match d with
  | .lst ds => some (.lst ds)
  | _ => none
theorem se_list (hg : Gl X "list") (hm : X.mg "list" = none) (ha : PA X [a] (tA G ms lk [k] E XE cs)) (ok : k.okc = true := by rfl) (hc : k.chi = .own 0 := by rfl) (hb : bootBuiltins "list" = some (.type "list") := by decide +kernel) (he : starEach [a] X.env = (false, eval a X.env) :: starEach [] X.env := by rfl) (hpl : (backTo pos (starEach [] X.env)).any (·.1) = false := by rfl) (hK : X.K = G.K := by rfl) :
    PE X (.Call (.Name "list" p) [a] [] pos) (tD G ms lk (.own 1) E XE (dN gList cs)) := PE.weak (pe_callTy call_list_of hg hm hb ha (by decide) (by decide) he hpl) fun σ H Q ⟨w, env, o, hH, R, ho, F⟩ => by
  rw [← hH]
  refine tA.bind R ho F (fun _ z => z) fun w1 env1 ds vs L R1 x1 V1 n1 ho1 F1 => ?_
  obtain ⟨z, hz, rfl⟩ := lf_some ho1
  obtain ⟨d, rfl, hz⟩ := one1_some hz
  obtain ⟨d', r, v, vs', L1, L2, h0, rfl, rfl, h1, h2, _⟩ := V1
  cases h0
  obtain ⟨_, rfl, rfl⟩ := h2
  cases d with
  | lst ds =>
    cases hz
    obtain ⟨a0, xs, rfl, g1, g2, g3⟩ := h1.kids ok hc R1.sub
    exact ⟨a0, xs, rfl, .inl (.inl (.inl g1)), fresh_lst F1 R1 .refl g3 g2⟩
  | _ => cases hz
/-! sorted -/
end
end PD
namespace PD
open PySem PySem.Spec PyProof.Rows L2 GF
/-! ### sorted -/
def leS (a b : Str) : Bool := !decide (b.cps.toList < a.cps.toList)
def leI (a b : Int) : Bool := decide (a ≤ b)
theorem str_ext {a b : Str} (h : a.cps.toList = b.cps.toList) : a = b := by
  obtain ⟨⟨a⟩⟩ := a
  obtain ⟨⟨b⟩⟩ := b
  cases (show a = b from h)
  rfl
theorem leS_trans (a b c : Str) (h1 : leS a b = true) (h2 : leS b c = true) : leS a c = true := by
  unfold leS at *
  simp only [Bool.not_eq_true', decide_eq_false_iff_not, List.not_lt] at *
  exact List.le_trans h1 h2
theorem leS_total (a b : Str) : (leS a b || leS b a) = true := by
  unfold leS
  rw [Bool.or_eq_true]
  simp only [Bool.not_eq_true', decide_eq_false_iff_not, List.not_lt]
  exact List.le_total _ _
theorem leS_anti {a b : Str} (h1 : leS a b = true) (h2 : leS b a = true) : a = b := by
  unfold leS at *
  simp only [Bool.not_eq_true', decide_eq_false_iff_not, List.not_lt] at *
  exact str_ext (List.le_antisymm h1 h2)
def sortS (xs : List Str) : List Str := xs.mergeSort leS
def sortI (xs : List Int) : List Int := xs.mergeSort leI
theorem risingS_pw : ∀ {xs : List Str} {p : Str}, risingS p xs = true → (p :: xs).Pairwise fun a b => leS a b = true
  | [], p, _ => List.pairwise_singleton _ _
  | x :: r, p, h => by
    obtain ⟨h1, h2⟩ := Bool.and_eq_true_iff.mp (show (!ltCps x.cps.toList p.cps.toList && risingS x r) = true from h)
    have ih := risingS_pw h2
    rw [ltCps_eq] at h1
    refine List.pairwise_cons.mpr ⟨fun y hy => ?_, ih⟩
    have hx : leS p x = true := h1
    rcases List.mem_cons.mp hy with rfl | hy
    · exact hx
    · exact leS_trans p x y hx ((List.pairwise_cons.mp ih).1 y hy)
theorem sortedS_pw {xs : List Str} (h : sortedS xs = true) : xs.Pairwise fun a b => leS a b = true := by
  cases xs with
  | nil => exact List.Pairwise.nil
  | cons x r => exact risingS_pw h
theorem sortS_eq {xs ys : List Str} (hp : ys.Perm xs) (h : ys.Pairwise fun a b => leS a b = true) : ys = sortS xs := by
  refine List.Perm.eq_of_pairwise (le := fun a b => leS a b = true) (fun a b _ _ h1 h2 => leS_anti h1 h2) h (List.pairwise_mergeSort leS_trans leS_total xs) (hp.trans (List.mergeSort_perm xs leS).symm)
theorem sortI_eq {xs ys : List Int} (hp : ys.Perm xs) (h : ys.Pairwise (· ≤ ·)) : ys = sortI xs := by
  refine List.Perm.eq_of_pairwise (le := fun a b => leI a b = true) (fun a b _ _ h1 h2 => by simp [leI] at h1 h2; omega) (h.imp fun h => decide_eq_true h) (List.pairwise_mergeSort (fun a b c h1 h2 => by simp [leI] at *; omega) (fun a b => by simp [leI]; omega) xs) (hp.trans (List.mergeSort_perm xs leI).symm)
def sortD : D → Option D
  | .lst ds => if ds.length < 64 then ((strsOf ds).map fun ss => D.lst ((sortS ss).map .str)).or ((intsOf ds).map fun ss => D.lst ((sortI ss).map .int)) else none
  | _ => none
section
variable {X : Cx} {K : PySem.W.Frag} {G : Gc} {ms lk ms' : List Nat} {k ka kb : Kd} {ks : List Kd} {bs E E1 Ea Eb El Eh : List Nat} {XE : XK} {pos p p1 p2 p3 : Pos} {a b e lo hi : Expr} {es : List Expr} {ca cb : DE} {cs : DA}
theorem fz_strs {Z : Hp} : ∀ (ss : List Str), FzA G.K G.CA Z (ss.map .str) (ss.map V.str)
  | [] => rfl
  | s :: ss => ⟨_, _, rfl, rfl, fz_strs ss⟩
theorem fz_ints {Z : Hp} : ∀ (ss : List Int), FzA G.K G.CA Z (ss.map .int) (ss.map V.int)
  | [] => rfl
  | s :: ss => ⟨_, _, rfl, rfl, fz_ints ss⟩
theorem se_sorted (hg : Gl X "sorted") (hm : X.mg "sorted" = none) (ha : PA X [a] (tA G ms lk [k] E XE cs)) (hb : bootBuiltins "sorted" = some (.builtin "sorted") := by decide +kernel) (he : starEach [a] X.env = (false, eval a X.env) :: starEach [] X.env := by rfl) (hpl : (backTo pos (starEach [] X.env)).any (·.1) = false := by rfl) (hK : X.K = G.K := by rfl) :
    PE X (.Call (.Name "sorted" p) [a] [] pos) (tD G ms lk (.own 1) E XE (dN (one1 sortD) cs)) := PE.weak (pe_callB (cr_sortedS.or cr_sorted) hg hm hb ha (by decide) (by decide) he hpl) fun σ H Q ⟨w, env, o, hH, R, ho, F⟩ => by
  rw [← hH]
  refine tA.bind R ho F (fun _ z => z) fun w1 env1 ds vs L R1 x1 V1 n1 ho1 F1 => ?_
  obtain ⟨z, hz, rfl⟩ := lf_some ho1
  obtain ⟨d, rfl, hz⟩ := one1_some hz
  obtain ⟨v, r, rfl, h1, h2⟩ := V1.rd R1.sub
  cases (show r = [] from h2)
  cases d with
  | lst ds =>
    obtain ⟨a0, xs, rfl, g1, g2, g3⟩ := h1
    have hz : (if ds.length < 64 then ((strsOf ds).map fun ss => D.lst ((sortS ss).map .str)).or ((intsOf ds).map fun ss => D.lst ((sortI ss).map .int)) else none) = some z := hz
    split at hz
    · rename_i h64
      cases e1 : strsOf ds with
      | some ss =>
        rw [e1] at hz
        cases hz
        have ex := strsOf_fz g3 e1
        have el : ss.length = ds.length := by have := g3.len; rw [ex, List.length_map] at this; exact this
        refine .inl ⟨a0, ss, rfl, by rw [← ex]; exact .inl (.inl (unl_lst g1)), by rw [el]; exact h64, fun ys q hp hs hq => ?_⟩
        cases sortS_eq hp (sortedS_pw hs)
        exact fresh_lst F1 R1 .refl (fz_strs _) (by rw [List.length_map, hp.length_eq, el]; exact small64 h64) q hq
      | none =>
        rw [e1] at hz
        cases e2 : intsOf ds with
        | none => rw [e2] at hz; cases hz
        | some ss =>
          rw [e2] at hz
          cases hz
          have ex := intsOf_fz g3 e2
          have el : ss.length = ds.length := by have := g3.len; rw [ex, List.length_map] at this; exact this
          refine .inr ⟨a0, ss, rfl, by rw [← ex]; exact .inl (.inl (unl_lst g1)), by rw [el]; exact h64, fun ys q hp hs hq => ?_⟩
          cases sortI_eq hp hs
          exact fresh_lst F1 R1 .refl (fz_ints _) (by rw [List.length_map, hp.length_eq, el]; exact small64 h64) q hq
    · cases hz
  | _ => cases hz
end
end PD
namespace PD
open PySem PySem.Spec PyProof.Rows L2 GF
/-! ### changes in place: a slot's own thing -/
section
variable {X : Cx} {K : PySem.W.Frag} {G : Gc} {ms lk ms' : List Nat} {k ka kb : Kd} {ks : List Kd} {bs E E1 Ea Eb El Eh : List Nat} {R : Rt} {XE : XK} {pos p p1 p2 p3 apos cpos tpos : Pos} {a b e : Expr} {es : List Expr} {ca cb : DE} {cs : DA} {Dn : Ends}
theorem mut_slot {w0 w1 : Wd} {env : Ev} {σ : L2.St} {i : Nat} {a : Addr} {o' : HO} {d d' : D} {L' L2 : List Addr} (Rl : Rel G ms lk w1 env σ) (x1 : Ext E w0 w1) (hE : i ∈ E) (hi : env[i]? = some (some d)) (hv : σ[i]? = some (some (.ref a))) (hLi : w1.Ls i = a :: L')
    (hnew : Ow G.K G.CA w1.Z (unl (upd w1.H a o')) (md ms i) d' (.ref a) (a :: L2)) (hnd : (a :: L2).Nodup) (po : plain o' = true) (pt : ∀ xs, o' ≠ .tup xs)
    (hL2 : ∀ b ∈ L2, b ∈ L' ∨ (w1.Z b = none ∧ (∀ j, b ∉ w1.Ls j) ∧ unl w1.H b = w1.H b ∧ (w0.H b ≠ none → ∃ j ∈ E, b ∈ w0.Ls j))) :
    ∃ w2, w2.H = upd w1.H a o' ∧ w2.Z = w1.Z ∧ w2.Ls i = a :: L2 ∧ (∀ j, j ≠ i → w2.Ls j = w1.Ls j) ∧ Rel G ms lk w2 (env.set i (some d')) σ ∧ Ext E w0 w2 := by
  have ai : a ∈ w1.Ls i := by rw [hLi]; exact List.mem_cons_self
  have na : ∀ {j : Nat} {b : Addr}, j ≠ i → b ∈ w1.Ls j → b ≠ a := fun {j b} hj hb z => Rl.dj j i hj b hb (by rw [z]; exact ai)
  have sub : ∀ {b : Addr}, b ∈ L' → b ∈ w1.Ls i := fun {b} hb => by rw [hLi]; exact List.mem_cons_of_mem _ hb
  have ilt : i < env.length := (List.getElem?_eq_some_iff.mp hi).1
  refine ⟨⟨w1.Z, upd w1.H a o', fun j => if j = i then a :: L2 else w1.Ls j⟩, rfl, rfl, if_pos rfl, fun j hj => if_neg hj, ⟨fun b u e => ?_, by rw [List.length_set]; exact Rl.len, fun j dj hd => ?_, fun j hj => ?_, fun j => ?_, fun j l n b hb => ?_, fun j b hb => ?_, fun j hj b hb => ?_, Rl.pin, fun b ys e => (by
    have e : upd w1.H a o' b = some (.tup ys) := e
    by_cases z : b = a
    · subst z; rw [upd_same] at e; cases e; exact absurd rfl (pt ys)
    · rw [upd_ne z] at e; exact Rl.tz b ys e)⟩, ⟨x1.zz, fun b u e n => ?_, x1.zn, fun j hj => ?_, fun j hj b hb hn => ?_, fun b h => ?_⟩⟩
  · show unl (upd w1.H a o') b = some u
    rw [unl_upd po, upd_ne fun z => by rw [z, Rl.zn i a ai] at e; cases e]
    exact Rl.sub b u e
  · show ∃ v, _ ∧ Ow _ _ _ _ _ _ _ (if j = i then a :: L2 else w1.Ls j)
    by_cases hj : j = i
    · subst hj
      rw [List.getElem?_set, if_pos rfl, if_pos ilt] at hd
      cases hd
      exact ⟨_, hv, by rw [if_pos rfl]; exact hnew⟩
    · rw [List.getElem?_set_ne (Ne.symm hj)] at hd
      obtain ⟨v, h1, h2⟩ := Rl.slot j dj hd
      refine ⟨v, h1, ?_⟩
      rw [if_neg hj]
      refine h2.frame (fun _ _ z => z) fun b hb => ?_
      show unl (upd w1.H a o') b = _
      rw [unl_upd po, upd_ne (na hj hb)]
  · show (if j = i then a :: L2 else w1.Ls j) = []
    by_cases z : j = i
    · subst z
      exact absurd (by rw [List.getElem?_set, if_pos rfl, if_pos ilt]) (hj d')
    · rw [if_neg z]
      exact Rl.emp j fun d z' => hj d (by rw [List.getElem?_set_ne (Ne.symm z)]; exact z')
  · show (if j = i then a :: L2 else w1.Ls j).Nodup
    split
    · exact hnd
    · exact Rl.nd j
  · have hb : b ∈ (if j = i then a :: L2 else w1.Ls j) := hb
    show b ∉ (if l = i then a :: L2 else w1.Ls l)
    have out : ∀ {l : Nat} {b : Addr}, l ≠ i → b ∈ a :: L2 → b ∉ w1.Ls l := fun {l b} hl hb q => by
      rcases List.mem_cons.mp hb with rfl | hb
      · exact Rl.dj l i hl b q ai
      · rcases hL2 b hb with z | z
        · exact Rl.dj l i hl b q (sub z)
        · exact z.2.1 l q
    split at hb
    · rename_i hj
      rw [if_neg fun z => n (hj.trans z.symm)]
      exact out (fun z => n (hj.trans z.symm)) hb
    · rename_i hj
      split
      · exact fun z => out hj z hb
      · exact Rl.dj j l n b hb
  · have hb : b ∈ (if j = i then a :: L2 else w1.Ls j) := hb
    split at hb
    · rcases List.mem_cons.mp hb with rfl | hb
      · exact Rl.zn i b ai
      · rcases hL2 b hb with z | z
        · exact Rl.zn i b (sub z)
        · exact z.1
    · exact Rl.zn j b hb
  · have hb : b ∈ (if j = i then a :: L2 else w1.Ls j) := hb
    show unl (upd w1.H a o') b = upd w1.H a o' b
    rw [unl_upd po]
    by_cases z : b = a
    · rw [z, upd_same, upd_same]
    · rw [upd_ne z, upd_ne z]
      by_cases hji : j = i
      · rw [if_pos hji] at hb
        rcases hL2 b ((List.mem_cons.mp hb).resolve_left z) with y | y
        · exact Rl.nl i (by rw [← hji]; exact hj) b (sub y)
        · exact y.2.2.1
      · rw [if_neg hji] at hb
        exact Rl.nl j hj b hb
  · show upd w1.H a o' b = some u ∨ (_ ∧ _ ∧ ∃ od, upd w1.H a o' b = some (.frz od u))
    rw [upd_ne fun z => by
      subst z
      obtain ⟨l, q, hl⟩ := x1.back ai (by rw [e]; simp)
      rcases hl with y | hl
      · exact n l (by rw [y]; exact hE) q
      · exact n l hl q]
    exact x1.hh b u e n
  · show (if j = i then a :: L2 else w1.Ls j) = w0.Ls j
    rw [if_neg fun z => hj (by rw [z]; exact hE)]
    exact x1.ll j hj
  · have hb : b ∈ (if j = i then a :: L2 else w1.Ls j) := hb
    have old : b ∈ w1.Ls i → ∃ l ∈ E, b ∈ w0.Ls l := fun q => by
      obtain ⟨l, q2, hl⟩ := x1.back q hn
      rcases hl with z | hl
      · exact ⟨l, by rw [z]; exact hE, q2⟩
      · exact ⟨l, hl, q2⟩
    split at hb
    · rcases List.mem_cons.mp hb with rfl | hb
      · exact old ai
      · rcases hL2 b hb with z | z
        · exact old (sub z)
        · exact z.2.2.2 hn
    · exact x1.ln j hj b hb hn
  · show upd w1.H a o' b ≠ none
    by_cases z : b = a
    · subst z; rw [upd_same]; simp
    · rw [upd_ne z]; exact x1.al b h
/-- what a list slot holds -/
theorem Rel.lstAt {w : Wd} {env : Ev} {σ : L2.St} {i m : Nat} {ds : List D} (Rl : Rel G ms lk w env σ) (hm : md ms i = m + 1) (hl : i ∉ lk) (hi : env[i]? = some (some (.lst ds))) :
    ∃ a xs L', σ[i]? = some (some (.ref a)) ∧ w.H a = some (.lst xs) ∧ w.Ls i = a :: L' ∧ ds.length ≤ sizeLine ∧ Al3 (Ow G.K G.CA w.Z (unl w.H) m) ds xs L' ∧ (a :: L').Nodup := by
  obtain ⟨v, h1, h2⟩ := Rl.slot i _ hi
  rw [hm] at h2
  obtain ⟨a, xs, L', rfl, h3, h4, h5, h6⟩ := h2
  exact ⟨a, xs, L', h1, unl_lst h3, h5, h4, h6, by rw [← h5]; exact Rl.nd i⟩
theorem al_keep {Z h h' : Hp} {m : Nat} {ds : List D} {xs : List V} {L : List Addr} (q : Al3 (Ow G.K G.CA Z h m) ds xs L) (f : ∀ a ∈ L, h' a = h a) : Al3 (Ow G.K G.CA Z h' m) ds xs L := q.imp fun d v l _ r hl => r.frame (fun _ _ z => z) fun a ha => f a (hl a ha)
theorem al0_fz {Z h : Hp} : ∀ {ds : List D} {xs : List V} {L : List Addr}, Al3 (Ow G.K G.CA Z h 0) ds xs L → FzA G.K G.CA Z ds xs ∧ L = []
  | [], _, _, q => ⟨q.1, q.2⟩
  | _ :: _, _, _, q => by
    obtain ⟨v, r, L1, L2, e1, rfl, h1, h2⟩ := q
    obtain ⟨h3, rfl⟩ := al0_fz h2
    exact ⟨⟨v, r, e1, h1.2, h3⟩, by rw [h1.1]; rfl⟩
theorem fz_al0 {Z h : Hp} : ∀ {ds : List D} {xs : List V}, FzA G.K G.CA Z ds xs → Al3 (Ow G.K G.CA Z h 0) ds xs []
  | [], _, q => ⟨q, rfl⟩
  | _ :: _, _, q => by
    obtain ⟨v, r, e1, h1, h2⟩ := q
    exact ⟨v, r, [], [], e1, rfl, ⟨rfl, h1⟩, fz_al0 h2⟩
theorem VA.fz {w : Wd} : ∀ {ks : List Kd} {ds : List D} {vs : List V} {L : List Addr}, VA G w ks ds vs L → (∀ k ∈ ks, k = .own 0) → FzA G.K G.CA w.Z ds vs
  | [], _, _, _, h, _ => by obtain ⟨rfl, rfl, _⟩ := h; rfl
  | k :: _, _, _, _, h, hk => by
    obtain ⟨d, ds', v, vs', L1, L2, rfl, rfl, rfl, h1, h2, h3⟩ := h
    obtain rfl := hk k List.mem_cons_self
    exact ⟨v, vs', rfl, h1.1.2, VA.fz h2 fun k hk' => hk k (List.mem_cons_of_mem _ hk')⟩
/-- a list's method: what it gives back, what the list holds then -/
abbrev LM := List D → List D → Option (D × List D)
def VM (G : Gc) (r : V → List V → Hp → VK → Prop) (f : LM) : Prop := ∀ (Z H : Hp) (a : Addr) (ds : List D) (xs : List V) (as : List D) (vs : List V) (res : D) (ds' : List D) (Q : VK), Same Z (unl H) → H a = some (.lst xs) → ds.length ≤ sizeLine → FzA G.K G.CA Z ds xs → FzA G.K G.CA Z as vs → f ds as = some (res, ds') →
  ∃ v xs', Fz G.K G.CA Z res v ∧ FzA G.K G.CA Z ds' xs' ∧ ds'.length ≤ sizeLine ∧ (Q v (upd H a (.lst xs')) → r (.ref a) vs H Q)
/-- x.m(..), x a slot that owns a list of frozen things -/
def dLm (i : Nat) (f : LM) (a : DA) : DE := fun env => match env[i]? with
  | some (some (.lst _)) => bnd a (fun as env1 => match env1[i]? with
    | some (some (.lst ds)) => match f ds as with
      | some (res, ds') => some (.ok res (env1.set i (some (.lst ds'))))
      | none => none
    | _ => none) env
  | _ => none
theorem lm_end {i : Nat} {r : V → List V → Hp → VK → Prop} {f : LM} (hv : VM G r f) (hm : md ms i = 1) (hl : i ∉ lk) {w w1 : Wd} {env1 : Ev} {σ : L2.St} {Q : VK} {as : List D} {vs : List V} {o : Out D} {a : Addr} (R1 : Rel G ms lk w1 env1 σ) (x1 : Ext (i :: Ea) w w1) (fa : FzA G.K G.CA w1.Z as vs) (hσ : σ[i]? = some (some (.ref a)))
    (ho : (match env1[i]? with
    | some (some (.lst ds)) => match f ds as with
      | some (res, ds') => some (Out.ok res (env1.set i (some (.lst ds'))))
      | none => none
    | _ => none) = some o) (F : Fin G ms lk (.own 0) (i :: Ea) XE w σ Q o) : r (.ref a) vs w1.H Q := by
  split at ho
  · rename_i ds hi
    split at ho
    · rename_i res ds' hf
      cases ho
      obtain ⟨a', xs, L', h1, h2, h3, h4, h5, h6⟩ := R1.lstAt hm hl hi
      rw [hσ] at h1
      cases h1
      obtain ⟨h7, rfl⟩ := al0_fz h5
      obtain ⟨v, xs', g1, g2, g3, g4⟩ := hv w1.Z w1.H a ds xs as vs res ds' Q R1.sub h2 h4 h7 fa hf
      refine g4 ?_
      obtain ⟨w2, q1, q2, q3, q4, q5, q6⟩ := mut_slot (o' := .lst xs') (d' := .lst ds') (L2 := []) R1 x1 List.mem_cons_self hi hσ h3 (by
        rw [hm]
        exact ⟨a, xs', [], rfl, unl_of upd_same rfl, g3, rfl, fz_al0 g2⟩) (by simp) rfl (fun _ z => by cases z) (fun _ z => by cases z)
      rw [← q1]
      exact F w2 v [] q5 q6 ⟨⟨rfl, by rw [q2]; exact g1⟩, List.nodup_nil, fun _ z => by cases z⟩ .nil
    · cases ho
  · cases ho
theorem se_lm {i : Nat} {x m : Str} {px : Pos} {id : String} {r : V → List V → Hp → VK → Prop} {f : LM} (slot : Slot "list" m id) (hty : typeOf (.builtin id) = pure (.type "method_descriptor")) (hr : MtR X id r) (hv : VM G r f) (hx : PE X (.Name x px) (tVar i)) (ha : PA X (a :: es) (tA G ms lk ks Ea XE cs)) (hk : ∀ k ∈ ks, k = .own 0 := by intro k hk; repeat' (first | (exact hk.trans rfl) | (cases hk; done) | (rcases List.mem_cons.mp hk with hk | hk))) (hm : md ms i = 1 := by rfl) (hl : i ∉ lk := by decide) (hK : X.K = G.K := by rfl)
    (hbase : attributeBase (.Name x px) m X.env (eval (.Name x px) X.env) = eval (.Name x px) X.env := by rfl)
    (hfew : ((backTo cpos (starEach (a :: es) X.env)).all (fun x => !x.1) && (backToKw cpos (keywordEach [] X.env)).all (fun x => x.1.isSome)
      && decide ((a :: es).length + ([] : List Keyword).length + (if ([] : List Keyword).isEmpty then 0 else 1) < 30)) = true := by rfl)
    (hline : (apos.endLine == cpos.line) = true := by rfl) (hs : starEach (a :: es) X.env = (false, eval a X.env) :: starEach es X.env := by rfl) (hplain : (backTo cpos (starEach es X.env)).any (·.1) = false := by rfl) :
    PE X (.Call (.Attribute (.Name x px) m apos) (a :: es) [] cpos) (tD G ms lk (.own 0) (i :: Ea) XE (dLm i f cs)) := PE.weak (pe_bm PySem.F.plainAttrs_list slot hty hr hx ha hbase hfew hline hs hplain) fun σ H Q ⟨w, env, o, hH, R, ho, F⟩ => by
  rw [← hH]
  unfold dLm at ho
  split at ho
  · rename_i ds hi
    obtain ⟨a0, xs, L', h1, h2, h3, h4, h5, h6⟩ := R.lstAt hm hl hi
    refine ⟨_, h1, by rw [hK]; exact .inl ⟨rfl, xs, .inl (.inl h2)⟩, ?_⟩
    refine tA.bindG (FF := fun w' o => Fin G ms lk (.own 0) (i :: Ea) XE w σ Q o) R ho F (fun w1 x F => F) (fun x e eo F w' p R' x' P => by subst eo; exact F w' p R' (x'.mono fun j hj => List.mem_cons_of_mem _ hj) P) fun w1 env1 as vs L R1 x1 V1 n1 ho1 _ => ?_
    exact lm_end hv hm hl R1 (x1.mono fun j hj => List.mem_cons_of_mem _ hj) (V1.fz hk) h1 ho1 F
  · cases ho
theorem se_lm0 {i : Nat} {x m : Str} {px : Pos} {id : String} {r : V → List V → Hp → VK → Prop} {f : LM} (slot : Slot "list" m id) (hty : typeOf (.builtin id) = pure (.type "method_descriptor")) (hr : MtR X id r) (hv : VM G r f) (hx : PE X (.Name x px) (tVar i)) (hm : md ms i = 1 := by rfl) (hl : i ∉ lk := by decide) (hK : X.K = G.K := by rfl)
    (hbase : attributeBase (.Name x px) m X.env (eval (.Name x px) X.env) = eval (.Name x px) X.env := by rfl) (hline : (apos.endLine == cpos.line) = true := by rfl) :
    PE X (.Call (.Attribute (.Name x px) m apos) [] [] cpos) (tD G ms lk (.own 0) [i] XE (dLm i f nilA)) := PE.weak (pe_bm0 PySem.F.plainAttrs_list slot hty hr hx hbase hline) fun σ H Q ⟨w, env, o, hH, R, ho, F⟩ => by
  rw [← hH]
  unfold dLm at ho
  split at ho
  · rename_i ds hi
    obtain ⟨a0, xs, L', h1, h2, h3, h4, h5, h6⟩ := R.lstAt hm hl hi
    refine ⟨_, h1, by rw [hK]; exact .inl ⟨rfl, xs, .inl (.inl h2)⟩, ?_⟩
    exact lm_end (Ea := []) (as := []) (vs := []) hv hm hl R .refl (show FzA G.K G.CA w.Z [] [] from rfl) h1 ho F
  · cases ho
/-! append, pop, extend, clear, reverse -/
def fApp : LM := fun ds as => match as with
  | [d] => if ds.length < sizeLine then some (.non, ds ++ [d]) else none
  | _ => none
theorem vm_app : VM G rAppend fApp := fun Z H a ds xs as vs res ds' Q s ha hl hd hv hf => by
  unfold fApp at hf
  split at hf
  · split at hf
    · rename_i hz
      cases hf
      obtain ⟨v, r, rfl, h1, h2⟩ := hv
      cases (show r = [] from h2)
      exact ⟨.non, xs ++ [v], rfl, hd.app ⟨v, [], rfl, h1, rfl⟩, by rw [List.length_append, List.length_singleton]; omega, fun q => ⟨a, xs, v, rfl, rfl, ha, by rw [hd.len]; exact hz, q⟩⟩
    · cases hf
  · cases hf
def fPop : LM := fun ds as => match as with
  | [] => match ds[ds.length - 1]? with
    | some d => some (d, ds.dropLast)
    | none => none
  | [.int i] => if -(2 ^ 63) ≤ i ∧ i < 2 ^ 63 then match ixN ds.length i with
    | some j => match ds[j]? with
      | some d => some (d, ds.eraseIdx j)
      | none => none
    | none => none
    else none
  | _ => none
theorem FzA.dropLast {Z : Hp} {ds : List D} {xs : List V} (h : FzA G.K G.CA Z ds xs) : FzA G.K G.CA Z ds.dropLast xs.dropLast := by
  rw [List.dropLast_eq_take, List.dropLast_eq_take, h.len]
  exact h.take _
theorem FzA.erase {Z : Hp} {ds : List D} {xs : List V} (h : FzA G.K G.CA Z ds xs) (j : Nat) : FzA G.K G.CA Z (ds.eraseIdx j) (xs.eraseIdx j) := by
  rw [List.eraseIdx_eq_take_drop_succ, List.eraseIdx_eq_take_drop_succ]
  exact (h.take _).app (h.drop _)
def fPop0 : LM := fun ds as => match as with | [] => fPop ds [] | _ => none
def fPop1 : LM := fun ds as => match as with | [.int i] => fPop ds [.int i] | _ => none
theorem vm_pop0 : VM G rPop fPop0 := fun Z H a ds xs as vs res ds' Q s ha hl hd hv hf => by
  unfold fPop0 at hf
  split at hf
  · unfold fPop at hf
    dsimp only at hf
    split at hf
    · rename_i d e
      cases hf
      cases (show vs = [] from hv)
      obtain ⟨u, e1, h1⟩ := hd.at e
      refine ⟨u, xs.dropLast, h1, hd.dropLast, ?_, fun q => ⟨a, xs, u, rfl, rfl, ha, ?_, q⟩⟩
      · rw [List.length_dropLast]; omega
      · rw [hd.len]; exact e1
    · cases hf
  · cases hf
theorem vm_pop1 : VM G rPopAt fPop1 := fun Z H a ds xs as vs res ds' Q s ha hl hd hv hf => by
  unfold fPop1 at hf
  split at hf
  · rename_i i
    unfold fPop at hf
    dsimp only at hf
    split at hf
    · rename_i hb
      split at hf
      · rename_i j hj
        split at hf
        · rename_i d e
          cases hf
          obtain ⟨v, r, rfl, h1, h2⟩ := hv
          cases (show r = [] from h2)
          obtain ⟨u, e1, h3⟩ := hd.at e
          refine ⟨u, xs.eraseIdx j, h3, hd.erase j, ?_, fun q => ⟨a, xs, i, j, u, rfl, by rw [show v = .int i from h1], ha, hb.1, hb.2, ?_, e1, q⟩⟩
          · exact Nat.le_trans (List.length_eraseIdx_le _ _) hl
          · rw [hd.len]; exact (ixN_seq hj).1
        · cases hf
      · cases hf
    · cases hf
  · cases hf
def fExt : LM := fun ds as => match as with
  | [.lst es] => if ds.length + es.length ≤ sizeLine then some (.non, ds ++ es) else none
  | _ => none
theorem vm_ext : VM G rExtend fExt := fun Z H a ds xs as vs res ds' Q s ha hl hd hv hf => by
  unfold fExt at hf
  split at hf
  · split at hf
    · rename_i hz
      cases hf
      obtain ⟨v, r, rfl, h1, h2⟩ := hv
      cases (show r = [] from h2)
      obtain ⟨b, ys, rfl, g1, g2, g3⟩ := h1
      exact ⟨.non, xs ++ ys, rfl, hd.app g3, by rw [List.length_append]; exact hz, fun q => ⟨a, b, xs, ys, rfl, rfl, ha, unl_lst (s _ _ g1), by rw [hd.len, g3.len]; exact hz, q⟩⟩
    · cases hf
  · cases hf
def fClr : LM := fun _ as => match as with
  | [] => some (.non, [])
  | _ => none
theorem vm_clr : VM G rClear fClr := fun Z H a ds xs as vs res ds' Q s ha hl hd hv hf => by
  unfold fClr at hf
  split at hf
  · cases hf
    cases (show vs = [] from hv)
    exact ⟨.non, [], rfl, rfl, Nat.zero_le _, fun q => ⟨a, xs, rfl, rfl, ha, q⟩⟩
  · cases hf
def fRevM : LM := fun ds as => match as with
  | [] => some (.non, ds.reverse)
  | _ => none
theorem vm_revM : VM G rReverse fRevM := fun Z H a ds xs as vs res ds' Q s ha hl hd hv hf => by
  unfold fRevM at hf
  split at hf
  · cases hf
    cases (show vs = [] from hv)
    exact ⟨.non, xs.reverse, rfl, hd.rev, by rw [List.length_reverse]; exact hl, fun q => ⟨a, xs, rfl, rfl, ha, q⟩⟩
  · cases hf
end
end PD
namespace PD
open PySem PySem.Spec PyProof.Rows L2 GF
/-! ### stores: x[i] = e, x op= e, x[i] op= e -/
section
variable {X : Cx} {K : PySem.W.Frag} {G : Gc} {ms lk ms' : List Nat} {k ka kb : Kd} {ks : List Kd} {bs E E1 Ea Eb El Eh : List Nat} {R : Rt} {XE : XK} {pos p p1 p2 p3 apos cpos tpos pos' : Pos} {a b e : Expr} {es : List Expr} {ca cb : DE} {cs : DA} {Dn : Ends}
def putD {κ α : Type} [DecidableEq κ] (kvs : List (κ × α)) (k : κ) (v : α) : List (κ × α) :=
  if (kvs.any fun kv => decide (kv.1 = k)) = true then kvs.map (fun kv => if kv.1 = k then (kv.1, v) else kv) else kvs ++ [(k, v)]
theorem FzE.put {κ : Type} [DecidableEq κ] {Z : Hp} {ks : List (κ × D)} {xs : List (κ × V)} (h : FzE G.K G.CA Z ks xs) (k : κ) {d : D} {v : V} (hv : Fz G.K G.CA Z d v) : FzE G.K G.CA Z (putD ks k d) (putK xs k v) := by
  have any : ∀ {ks : List (κ × D)} {xs : List (κ × V)}, FzE G.K G.CA Z ks xs → (xs.any fun kv => decide (kv.1 = k)) = ks.any fun kv => decide (kv.1 = k) := by
    intro ks
    induction ks with
    | nil => intro xs h; cases (show _ = _ from h); rfl
    | cons p ks ih =>
      intro xs h
      obtain ⟨k0, d0⟩ := p
      obtain ⟨u, r, rfl, h1, h2⟩ := h
      rw [List.any_cons, List.any_cons, ih h2]
  have mp : ∀ {ks : List (κ × D)} {xs : List (κ × V)}, FzE G.K G.CA Z ks xs → FzE G.K G.CA Z (ks.map fun kv => if kv.1 = k then (kv.1, d) else kv) (xs.map fun kv => if kv.1 = k then (kv.1, v) else kv) := by
    intro ks
    induction ks with
    | nil => intro xs h; cases (show _ = _ from h); rfl
    | cons p ks ih =>
      intro xs h
      obtain ⟨k0, d0⟩ := p
      obtain ⟨u, r, rfl, h1, h2⟩ := h
      rw [List.map_cons, List.map_cons]
      by_cases e : k0 = k
      · rw [if_pos e, if_pos e]; exact ⟨v, _, rfl, hv, ih h2⟩
      · rw [if_neg e, if_neg e]; exact ⟨u, _, rfl, h1, ih h2⟩
  have ap : ∀ {ks : List (κ × D)} {xs : List (κ × V)}, FzE G.K G.CA Z ks xs → FzE G.K G.CA Z (ks ++ [(k, d)]) (xs ++ [(k, v)]) := by
    intro ks
    induction ks with
    | nil => intro xs h; cases (show _ = _ from h); exact ⟨v, [], rfl, hv, rfl⟩
    | cons p ks ih =>
      intro xs h
      obtain ⟨k0, d0⟩ := p
      obtain ⟨u, r, rfl, h1, h2⟩ := h
      exact ⟨u, _, rfl, h1, ih h2⟩
  unfold putD putK
  rw [any h]
  split
  · exact mp h
  · exact ap h
theorem putD_len {κ α : Type} [DecidableEq κ] (kvs : List (κ × α)) (k : κ) (v : α) : (putD kvs k v).length ≤ kvs.length + 1 := by
  unfold putD
  split
  · rw [List.length_map]; omega
  · rw [List.length_append]; simp
theorem FzE.toK {Z : Hp} : ∀ {ks : List (Key × D)} {xs : List (Key × V)}, FzE G.K G.CA Z ks xs → FzK G.K G.CA Z ks xs
  | [], _, h => h
  | (_, _) :: _, _, h => let ⟨v, r, e, h1, h2⟩ := h; ⟨v, r, e, h1, FzE.toK h2⟩
theorem alK0 {κ : Type} {Z h : Hp} : ∀ {ks : List (κ × D)} {xs : List (κ × V)} {L : List Addr}, Al3 (KR (Ow G.K G.CA Z h 0)) ks xs L → FzE G.K G.CA Z ks xs ∧ L = []
  | [], _, _, q => ⟨q.1, q.2⟩
  | (k, d) :: _, _, _, q => by
    obtain ⟨⟨k', v⟩, r, L1, L2, rfl, rfl, ⟨h0, h1⟩, h2⟩ := q
    cases h0
    obtain ⟨h3, rfl⟩ := alK0 h2
    exact ⟨⟨v, r, rfl, h1.2, h3⟩, by rw [h1.1]; rfl⟩
theorem k0Al {κ : Type} {Z h : Hp} : ∀ {ks : List (κ × D)} {xs : List (κ × V)}, FzE G.K G.CA Z ks xs → Al3 (KR (Ow G.K G.CA Z h 0)) ks xs []
  | [], _, q => ⟨q, rfl⟩
  | (k, d) :: _, _, q => by
    obtain ⟨v, r, rfl, h1, h2⟩ := q
    exact ⟨(k, v), r, [], [], rfl, rfl, ⟨rfl, rfl, h1⟩, k0Al h2⟩
def stoD : D → D → D → Option D
  | .lst ds, .int i, d => (ixN ds.length i).map fun j => .lst (ds.set j d)
  | .dct ks, c, d => if ks.length < sizeLine then (keyOf c).map fun k => .dct (putD ks k d) else none
  | .dtt ks, c, d => if ks.length < sizeLine then (keysOf c).map fun k => .dtt (putD ks k d) else none
  | _, _, _ => none
/-- the heap behind a store, by values -/
def StoV (H : Hp) (o i v : V) (H' : Hp) : Prop := (∃ p xs k j, o = .ref p ∧ i = .int k ∧ H p = some (.lst xs) ∧ ixN xs.length k = some j ∧ H' = upd H p (.lst (xs.set j v))) ∨ ∃ p, o = .ref p ∧ DPut H p i v H'
theorem FzA.set {Z : Hp} : ∀ {ds : List D} {xs : List V} (j : Nat) {d : D} {v : V}, FzA G.K G.CA Z ds xs → Fz G.K G.CA Z d v → FzA G.K G.CA Z (ds.set j d) (xs.set j v)
  | [], _, _, _, _, h, _ => by cases (show _ = _ from h); rfl
  | _ :: _, _, 0, _, v, h, hv => by
    obtain ⟨u, r, rfl, h1, h2⟩ := h
    exact ⟨v, r, rfl, hv, h2⟩
  | _ :: _, _, j + 1, _, v, h, hv => by
    obtain ⟨u, r, rfl, h1, h2⟩ := h
    exact ⟨u, r.set j v, rfl, h1, FzA.set j h2 hv⟩
/-- a slot's own thing gets an item -/
theorem sto_slot {w w1 : Wd} {env1 : Ev} {σ : L2.St} {i : Nat} {c c' j d : D} {jv v : V} (R1 : Rel G ms lk w1 env1 σ) (x1 : Ext E w w1) (hE : i ∈ E) (hm : md ms i = 1) (hl : i ∉ lk) (hi : env1[i]? = some (some c)) (hs : stoD c j d = some c') (hj : Fz G.K G.CA (unl w1.H) j jv) (hv : Fz G.K G.CA w1.Z d v) :
    ∃ o H', σ[i]? = some (some o) ∧ StoV w1.H o jv v H' ∧ ∃ w2, w2.H = H' ∧ w2.Z = w1.Z ∧ Rel G ms lk w2 (env1.set i (some c')) σ ∧ Ext E w w2 := by
  obtain ⟨o, h1, h2⟩ := R1.slot i c hi
  rw [hm] at h2
  cases c with
  | lst ds =>
    cases j with
    | int n =>
      obtain ⟨m, hm', rfl⟩ := Option.map_eq_some_iff.mp (show (ixN ds.length n).map _ = _ from hs)
      obtain ⟨a, xs, L', rfl, g1, g2, g3, g4⟩ := h2
      obtain ⟨g5, rfl⟩ := al0_fz g4
      have g1' := unl_lst g1
      obtain ⟨w2, q1, q2, q3, q4, q5, q6⟩ := mut_slot (o' := .lst (xs.set m v)) (d' := .lst (ds.set m d)) (L2 := []) R1 x1 hE hi h1 g3 (by
        rw [hm]
        exact ⟨a, _, [], rfl, unl_of upd_same rfl, by rw [List.length_set]; exact g2, rfl, fz_al0 (g5.set m hv)⟩) (by simp) rfl (fun _ z => by cases z) (fun _ z => by cases z)
      exact ⟨_, _, h1, .inl ⟨a, xs, n, m, rfl, hj, g1', by rw [g5.len]; exact hm', rfl⟩, w2, q1, q2, q5, q6⟩
    | _ => cases hs
  | dct ks =>
    have hs : (if ks.length < sizeLine then (keyOf j).map fun k => D.dct (putD ks k d) else none) = some c' := hs
    split at hs
    · rename_i hz
      obtain ⟨k, hk, rfl⟩ := Option.map_eq_some_iff.mp hs
      obtain ⟨a, xs, L', rfl, g1, g2, g3, g4⟩ := h2
      obtain ⟨g5, rfl⟩ := alK0 g4
      have g1' : w1.H a = some (.dK xs) := by rw [← R1.nl i hl a (by rw [g3]; exact List.mem_cons_self)]; exact g1
      obtain ⟨w2, q1, q2, q3, q4, q5, q6⟩ := mut_slot (o' := .dK (putK xs k v)) (d' := .dct (putD ks k d)) (L2 := []) R1 x1 hE hi h1 g3 (by
        rw [hm]
        exact ⟨a, _, [], rfl, unl_of upd_same rfl, by have := putD_len ks k d; omega, rfl, k0Al (g5.put k hv)⟩) (by simp) rfl (fun _ z => by cases z) (fun _ z => by cases z)
      exact ⟨_, _, h1, .inr ⟨a, rfl, .inl ⟨xs, k, g1', keyOf_fz hk hj, by rw [g5.len]; exact hz, rfl⟩⟩, w2, q1, q2, q5, q6⟩
    · cases hs
  | dtt ks =>
    have hs : (if ks.length < sizeLine then (keysOf j).map fun k => D.dtt (putD ks k d) else none) = some c' := hs
    split at hs
    · rename_i hz
      obtain ⟨k, hk, rfl⟩ := Option.map_eq_some_iff.mp hs
      obtain ⟨a, xs, L', rfl, g1, g2, g3, g4⟩ := h2
      obtain ⟨g5, rfl⟩ := alK0 g4
      have g1' : w1.H a = some (.dT xs) := by rw [← R1.nl i hl a (by rw [g3]; exact List.mem_cons_self)]; exact g1
      obtain ⟨b, rfl, hb⟩ := keysOf_fz hk hj
      obtain ⟨w2, q1, q2, q3, q4, q5, q6⟩ := mut_slot (o' := .dT (putK xs k v)) (d' := .dtt (putD ks k d)) (L2 := []) R1 x1 hE hi h1 g3 (by
        rw [hm]
        exact ⟨a, _, [], rfl, unl_of upd_same rfl, by have := putD_len ks k d; omega, rfl, k0Al (g5.put k hv)⟩) (by simp) rfl (fun _ z => by cases z) (fun _ z => by cases z)
      exact ⟨_, _, h1, .inr ⟨a, rfl, .inr ⟨xs, k, b, g1', rfl, unl_tup hb, by rw [g5.len]; exact hz, rfl⟩⟩, w2, q1, q2, q5, q6⟩
    · cases hs
  | _ => cases hs
def rSetV : V → V → V → Hp → (Hp → Prop) → Prop := fun o i v H Q => ∃ H', StoV H o i v H' ∧ Q H'
theorem set_V (hu : X.A.units + 1 < cLine) : PSet X rSetV := by
  intro pins s σ H o i v ov iv u Q I ro ri rv h
  obtain ⟨H', h, q⟩ := h
  rcases h with ⟨p, xs, k, j, h1, h2, h3, h4, rfl⟩ | ⟨p, rfl, h⟩
  · exact set_list pins s σ H o i v ov iv u Q I ro ri rv ⟨p, xs, k, j, h1, h2, h3, h4, q⟩
  · obtain rfl : ov = Value.ref p := ro
    exact d_setItem hu I h ri rv fun s' I' => ⟨H', I', q⟩
/-- o[i], by values -/
def rGetV (K : PySem.W.Frag) : V → V → Hp → VK → Prop := fun o i H Q => (∃ p xs k v, o = .ref p ∧ i = .int k ∧ SqL K H p xs ∧ atI xs k = some v ∧ Q v H) ∨ ∃ p v, o = .ref p ∧ DGet H p i (some v) ∧ Q v H
theorem get_V (hu : X.A.units + 1 < cLine) : PGet X (rGetV X.K) := by
  intro pins s σ H o i ov iv Q I ro ri h
  rcases h with ⟨p, xs, k, v, rfl, rfl, hq, he, q⟩ | ⟨p, v, rfl, g, q⟩
  · cases ro
    obtain ⟨t, rfl⟩ := ri
    obtain ⟨its, r, pl, hz⟩ := I.list hq
    obtain ⟨j, h1, h2, h3, h4, h5⟩ := atI_get he
    obtain ⟨w, ew, rw'⟩ := r.get h2
    have hl := r.length
    have hn := line63
    by_cases h0 : 0 ≤ k
    · have hj : k.toNat = j := by
        rw [seqIndex_of h0 h5] at h1
        exact Option.some.inj h1
      exact wpAny_getItem_list pl.isList h0 (by omega) (by rw [hj]; simpa using ew) ⟨v, H, I, rw', q⟩
    · have hj : (k + (its.toArray.size : Int)).toNat = j := by
        rw [seqIndex_neg (by omega) h4] at h1
        rw [List.size_toArray, ← hl]
        exact Option.some.inj h1
      exact wpAny_getItem_list_neg pl.isList (by omega) (by rw [List.size_toArray] <;> omega) (by omega) (by rw [hj]; simpa using ew) ⟨v, H, I, rw', q⟩
  · obtain rfl : ov = Value.ref p := ro
    exact d_getItem hu I g ri fun w' s' I' rw' => ⟨v, H, I', rw', q⟩
/-- a slot that holds something -/
def have_ {α : Type} (i : Nat) (c : Ev → Option α) : Ev → Option α := fun e => match e[i]? with
  | some (some _) => c e
  | _ => none
/-- x[j] = e -/
def sSto (i : Nat) (av aj : DE) : DS := bndS av fun d => have_ i (bndS aj fun j env => match env[i]? with
  | some (some c) => match stoD c j d with
    | some c' => some (.nx (env.set i (some c')))
    | none => none
  | _ => none)
theorem ss_sto {i : Nat} {x : Str} {px : Pos} (hu : X.A.units + 1 < cLine) (hx : PE X (.Name x px) (tVar i)) (hb : PE X b (tD G ms lk kb Eb XE cb)) (ha : PE X a (tD G ms lk (.own 0) Ea XE ca)) (hm : md ms i = 1 := by rfl) (hl : i ∉ lk := by decide)
    (h1 : ∀ v, assign (.Subscript (.Name x px) b pos') X.env v = (do
      let ov ← holding [v] (eval (.Name x px) X.env)
      let iv ← holding [v, ov] (eval b X.env)
      standAt pos'
      holding [v, ov, iv] (setItem ov iv v)
      release [v, ov, iv] []) := by intro _; rfl) (hs : swapsWithSole [.Subscript (.Name x px) b pos'] a pos.line X.env = pure false := by rfl) (hw : swappedStores [.Subscript (.Name x px) b pos'] a X.env = pure none := by rfl) :
    PS X (.Assign [.Subscript (.Name x px) b pos'] a pos) (tS G ms lk ms (i :: (Ea ++ Eb)) R XE (sSto i ca cb)) := PS.weak (ps_asg ha (pg_sub hx hb (set_V hu) h1) hs hw) fun Dn σ H ⟨w, env, o, hH, Rl, ho, F⟩ => by
  rw [← hH]
  have e1 : ∀ j ∈ Ea, j ∈ i :: (Ea ++ Eb) := fun j hj => by simp [hj]
  have e2 : ∀ j ∈ Eb, j ∈ i :: (Ea ++ Eb) := fun j hj => by simp [hj]
  refine tD.bindS Rl ho F e1 fun w1 env1 d v L R1 x1 V1 n1 ho1 F1 => ?_
  unfold have_ at ho1
  split at ho1
  · rename_i c0 hc0
    obtain ⟨u, hu1, _⟩ := R1.slot i c0 hc0
    refine ⟨u, hu1, ?_⟩
    unfold bndS at ho1
    split at ho1
    · rename_i j env2 he
      refine ⟨w1, env1, _, rfl, R1, he, fun w2 jv L2 R2 x2 V2' n2 => ?_⟩
      dsimp only at ho1
      split at ho1
      · rename_i c hc
        split at ho1
        · rename_i c' hs'
          cases ho1
          obtain ⟨o', H', q1, q2, w3, q3, q4, q5, q6⟩ := sto_slot (w := w) (E := i :: (Ea ++ Eb)) R2 (x1.trans (x2.mono e2)) List.mem_cons_self hm hl hc hs' (V2'.rd R2.sub) (V1.1.2.same x2.zz)
          rw [hu1] at q1
          cases q1
          exact ⟨H', q2, by rw [← q3]; exact F w3 σ q5 q6⟩
        · cases ho1
      · cases ho1
    · rename_i x0 e0 he
      cases ho1
      exact ⟨w1, env1, _, rfl, R1, he, fun w' p R' x P => F1 w' p σ (.inr trivial) (x.mono e2) P⟩
    · cases ho1
  · cases ho1
/-- x op= e, ints and texts -/
def sAug (i : Nat) (g : D → D → Option D) (a : DE) : DS := fun env => match env[i]? with
  | some (some x) => if flatD x = true then bndS a (fun y env1 => match g x y with
    | some z => some (.nx (env1.set i (some z)))
    | none => none) env else none
  | _ => none
theorem ss_aug {i : Nat} {x : Str} {op : Operator} {r : R2} {g : D → D → Option D} (ho : OpR X (inplaceOp op) r) (hv : V2 G r g) (hN : X.N.Nodup) (hi : X.N[i]? = some x) (hx : Loc X.env.scope x) (ha : PE X a (tD G ms lk k Ea XE ca)) (hi2 : i < ms.length := by decide) (hp : i ∉ G.pins := by try dsimp only; decide +kernel) (hm : ms.set i 0 = ms := by rfl)
    (hf : X.fn x = true ∨ X.env.scope.names.lookup x = some .local := by first | exact .inl rfl | exact .inr rfl | assumption) :
    PS X (.AugAssign (.Name x pos') op a pos) (tS G ms lk ms (i :: Ea) R XE (sAug i g ca)) := PS.weak (ps_aug (ti := r) hN hi hx ha ho hf) fun Dn σ H ⟨w, env, o, hH, Rl, ho, F⟩ => by
  rw [← hH]
  unfold sAug at ho
  split at ho
  · rename_i x0 hx0
    split at ho
    · rename_i hfl
      obtain ⟨v, hv1, q⟩ := Rl.slot i x0 hx0
      refine ⟨v, hv1, ?_⟩
      refine tD.bindS Rl ho F (fun j hj => List.mem_cons_of_mem _ hj) fun w1 env1 d u L R1 x1 V1 n1 ho1 F1 => ?_
      split at ho1
      · rename_i z hz
        cases ho1
        obtain ⟨u0, hu0⟩ := flat_av hfl
        have hq : v = u0 := by
          have := q.frz (Z' := pl w.Z (unl w.H) (w.Ls i)) (pl_same fun a ha => Rl.zn i a ha) fun a ha => pl_in ha
          exact av_eq hu0 this
        obtain ⟨y, hy, q2⟩ := hv w1.H v u x0 d z (fun z H2 => Dn.nx (σ.set i (some z)) H2) (by rw [hq]; exact av_fz hu0) (V1.rd R1.sub) hz
        refine q2 ?_
        obtain ⟨w', q3⟩ := put_of (P := fun w' => Dn.nx (σ.set i (some y)) w'.H ∧ w'.H = w1.H) (m := 0) (d := z) (v := y) (L := []) R1 x1 (ValR.atom hy) .nil List.mem_cons_self hi2 hp fun w' R' x' e => ⟨F w' _ (by rw [← hm]; exact R') x', e⟩
        rw [← q3.2]
        exact q3.1
      · cases ho1
    · cases ho
  · cases ho
def isLs : D → Bool
  | .lst _ => true
  | _ => false
/-- x[j] op= e -/
def sSAug (i : Nat) (g : D → D → Option D) (aj ae : DE) : DS := have_ i (bndS aj fun j env => match env[i]? with
  | some (some c) => match gSub c j with
    | some x => if flatD x = true ∧ (isLs c = true ∨ isDic c = true) then bndS ae (fun y env1 => match g x y with
      | some z => match env1[i]? with
        | some (some c1) => match stoD c1 j z with
          | some c' => some (.nx (env1.set i (some c')))
          | none => none
        | _ => none
      | none => none) env else none
    | none => none
  | _ => none)
/-- what is no object, read out of a slot's thing -/
theorem get_slot {w : Wd} {env : Ev} {σ : L2.St} {i : Nat} {c j x : D} {jv : V} (Rl : Rel G ms lk w env σ) (hi : env[i]? = some (some c)) (hs : gSub c j = some x) (hc : isLs c = true ∨ isDic c = true) (hj : Fz G.K G.CA (unl w.H) j jv) (hx : flatD x = true) : ∃ o u, σ[i]? = some (some o) ∧ av x = some u ∧ ∀ Q : VK, Q u w.H → rGetV G.K o jv w.H Q := by
  obtain ⟨o, h1, h2⟩ := Rl.slot i c hi
  obtain ⟨u, hu⟩ := flat_av hx
  have fz : Fz G.K G.CA (unl w.H) c o := h2.frz Rl.sub fun _ _ => rfl
  refine ⟨o, u, h1, hu, fun Q q => ?_⟩
  cases c with
  | lst ds =>
    cases j with
    | int n =>
      obtain ⟨a, xs, rfl, g1, g2, g3⟩ := fz
      obtain ⟨m, h4, h5⟩ := atI_len g3.len (show atI ds n = some x from hs)
      obtain ⟨y, e1, e2⟩ := g3.at h4
      cases av_eq hu e2
      exact .inl ⟨a, xs, n, u, rfl, hj, .inl (.inl (unl_lst g1)), h5 u e1, q⟩
    | _ => cases hs
  | dct ks =>
    obtain ⟨a, xs, rfl, g1, g2, g3⟩ := fz
    obtain ⟨k, hk, hs⟩ := keyOf_some (show (keyOf j).bind (valD ks) = some x from hs)
    obtain ⟨m, e1, e2⟩ := valD_at hs
    obtain ⟨y, e3, e4⟩ := g3.e.at e1
    cases av_eq hu e4
    exact .inr ⟨a, u, rfl, .inl ⟨xs, k, unl_dK g1, keyOf_fz hk hj, (e2 V xs u g3.e.keys e3).symm⟩, q⟩
  | dtt ks =>
    obtain ⟨a, xs, rfl, g1, g2, g3⟩ := fz
    cases hk : keysOf j with
    | none => simp only [gSub, hk] at hs; cases hs
    | some k =>
      have hs : valD ks k = some x := by simpa [gSub, hk] using hs
      obtain ⟨m, e1, e2⟩ := valD_at hs
      obtain ⟨y, e3, e4⟩ := g3.e.at e1
      obtain ⟨b, rfl, hb⟩ := keysOf_fz hk hj
      cases av_eq hu e4
      exact .inr ⟨a, u, rfl, .inr ⟨xs, k, b, unl_dT g1, rfl, unl_tup hb, (e2 V xs u g3.e.keys e3).symm⟩, q⟩
  | _ => rcases hc with hc | hc <;> cases hc
theorem ss_saug {i : Nat} {x : Str} {px : Pos} {op : Operator} {r : R2} {g : D → D → Option D} (hu : X.A.units + 1 < cLine) (ho : OpR X (inplaceOp op) r) (hv : V2 G r g) (hx : PE X (.Name x px) (tVar i)) (hb : PE X b (tD G ms lk (.own 0) Eb XE cb)) (ha : PE X a (tD G ms lk ka Ea XE ca)) (hm : md ms i = 1 := by rfl) (hl : i ∉ lk := by decide) (hK : X.K = G.K := by rfl)
    (hs : ∀ ov iv new, augStore b ov iv new = (do holding [new, ov, iv] (setItem ov iv new); release [new, ov, iv] []; pure .next) := by intros; rfl) :
    PS X (.AugAssign (.Subscript (.Name x px) b tpos) op a pos) (tS G ms lk ms (i :: (Eb ++ Ea)) R XE (sSAug i g cb ca)) := PS.weak (ps_augS (tip := r) hx hb (get_V hu) ha ho (set_V hu) hs) fun Dn σ H ⟨w, env, o, hH, Rl, ho, F⟩ => by
  rw [← hH]
  have e1 : ∀ j ∈ Eb, j ∈ i :: (Eb ++ Ea) := fun j hj => by simp [hj]
  have e2 : ∀ j ∈ Ea, j ∈ i :: (Eb ++ Ea) := fun j hj => by simp [hj]
  unfold sSAug have_ at ho
  split at ho
  · rename_i c0 hc0
    obtain ⟨u, hu1, _⟩ := Rl.slot i c0 hc0
    refine ⟨u, hu1, ?_⟩
    refine tD.bindS Rl ho F e1 fun w1 env1 j jv L R1 x1 V1 n1 ho1 F1 => ?_
    split at ho1
    · rename_i c hc
      split at ho1
      · rename_i x0 hx0
        split at ho1
        · rename_i hfl
          · obtain ⟨o', u0, q1, q2, q3⟩ := get_slot R1 hc hx0 hfl.2 (V1.rd R1.sub) hfl.1
            rw [hu1] at q1
            cases q1
            rw [hK]
            refine q3 _ ?_
            refine tD.bindS R1 ho1 F1 e2 fun w2 env2 y yv L2 R2 x2 V2' n2 ho2 F2 => ?_
            split at ho2
            · rename_i z hz
              split at ho2
              · rename_i c1 hc1
                split at ho2
                · rename_i c' hs'
                  cases ho2
                  obtain ⟨zv, hzv, q4⟩ := hv w2.H u0 yv x0 y z (fun z H5 => rSetV u jv z H5 fun H6 => Dn.nx σ H6) (av_fz q2) (V2'.rd R2.sub) hz
                  refine q4 ?_
                  have jf : Fz G.K G.CA (unl w2.H) j jv := (V1.1.2.same x2.zz).same R2.sub
                  obtain ⟨o', H', q1, q2, w3, q3, q4, q5, q6⟩ := sto_slot (w := w1) (E := i :: (Eb ++ Ea)) R2 x2 List.mem_cons_self hm hl hc1 hs' jf (av_fz hzv)
                  rw [hu1] at q1
                  cases q1
                  exact ⟨H', q2, by rw [← q3]; exact F1 w3 σ q5 q6⟩
                · cases ho2
              · cases ho2
            · cases ho2
        · cases ho1
      · cases ho1
    · cases ho1
  · cases ho
end
end PD
namespace PD
open PySem PySem.Spec PyProof.Rows L2 GF
/-! ### more levels; isinstance -/
section
variable {X : Cx} {K : PySem.W.Frag} {G : Gc} {ms lk ms' : List Nat} {k ka kb : Kd} {ks : List Kd} {bs E E1 Ea Eb El Eh : List Nat} {R : Rt} {XE : XK} {pos p p1 p2 p3 apos cpos tpos pos' : Pos} {a b e : Expr} {es : List Expr} {ca cb : DE} {cs : DA} {Dn : Ends}
theorem ow_up {Z h : Hp} : ∀ {m : Nat} {d : D} {v : V} {L : List Addr}, leaf m d = true → Ow G.K G.CA Z h m d v L → Ow G.K G.CA Z h (m + 1) d v L := by
  intro m
  induction m with
  | zero =>
    intro d v L f q
    obtain ⟨u, hu⟩ := flat_av (show flatD d = true from f)
    cases av_eq hu q.2
    rw [q.1]
    exact av_ow hu
  | succ m ih =>
    intro d v L f q
    cases d with
    | lst ds =>
      obtain ⟨a, xs, L', e, q1, q2, e2, q3⟩ := q
      exact ⟨a, xs, L', e, q1, q2, e2, q3.imp fun d v l hd r _ => ih (List.all_eq_true.mp (show ds.all (leaf m) = true from f) d hd) r⟩
    | tup ds =>
      obtain ⟨a, xs, e, q1, q2, q3⟩ := q
      exact ⟨a, xs, e, q1, q2, q3.imp fun d v l hd r _ => ih (List.all_eq_true.mp (show ds.all (leaf m) = true from f) d hd) r⟩
    | dct ds =>
      obtain ⟨a, xs, L', e, q1, q2, e2, q3⟩ := q
      exact ⟨a, xs, L', e, q1, q2, e2, q3.imp fun d v l hd r _ => ⟨r.1, ih (List.all_eq_true.mp (show (ds.all fun p => leaf m p.2) = true from f) d hd) r.2⟩⟩
    | dtt ds =>
      obtain ⟨a, xs, L', e, q1, q2, e2, q3⟩ := q
      exact ⟨a, xs, L', e, q1, q2, e2, q3.imp fun d v l hd r _ => ⟨r.1, ih (List.all_eq_true.mp (show (ds.all fun p => leaf m p.2) = true from f) d hd) r.2⟩⟩
    | obj c ds =>
      obtain ⟨a, dx, xs, L', e, q1, q2, e2, q3⟩ := q
      exact ⟨a, dx, xs, L', e, q1, q2, e2, q3.imp fun d v l hd r _ => ⟨r.1, ih (List.all_eq_true.mp (show (ds.all fun p => leaf m p.2) = true from f) d hd) r.2⟩⟩
    | scr ns => cases f
    | non => exact q
    | bl b => exact q
    | int b => exact q
    | str b => exact q
theorem leaf_up : ∀ {m : Nat} {d : D}, leaf m d = true → leaf (m + 1) d = true := by
  intro m
  induction m with
  | zero =>
    intro d f
    cases d <;> first | rfl | (cases f; done)
  | succ m ih =>
    intro d f
    cases d with
    | lst ds => exact List.all_eq_true.mpr fun d hd => ih (List.all_eq_true.mp (show ds.all (leaf m) = true from f) d hd)
    | tup ds => exact List.all_eq_true.mpr fun d hd => ih (List.all_eq_true.mp (show ds.all (leaf m) = true from f) d hd)
    | dct ds => exact List.all_eq_true.mpr fun d hd => ih (List.all_eq_true.mp (show (ds.all fun p => leaf m p.2) = true from f) d hd)
    | dtt ds => exact List.all_eq_true.mpr fun d hd => ih (List.all_eq_true.mp (show (ds.all fun p => leaf m p.2) = true from f) d hd)
    | obj c ds => exact List.all_eq_true.mpr fun d hd => ih (List.all_eq_true.mp (show (ds.all fun p => leaf m p.2) = true from f) d hd)
    | scr ns => cases f
    | _ => rfl
theorem ow_ups {Z h : Hp} {m : Nat} {d : D} {v : V} {L : List Addr} (n : Nat) (f : leaf m d = true) (q : Ow G.K G.CA Z h m d v L) : Ow G.K G.CA Z h (m + n) d v L ∧ leaf (m + n) d = true := by
  induction n with
  | zero => exact ⟨q, f⟩
  | succ n ih => exact ⟨ow_up ih.2 ih.1, leaf_up ih.2⟩
/-- held down to more levels: below there is no object -/
def dUp (m : Nat) (c : DE) : DE := bnd c fun d => lf (if leaf m d = true then some d else none)
theorem se_up (m n : Nat) (h : PE X e (tD G ms lk (.own m) E XE ca)) : PE X e (tD G ms lk (.own (m + n)) E XE (dUp m ca)) := h.weak fun σ H Q ⟨w, env, o, hH, R, ho, F⟩ => by
  rcases bnd_some ho with ⟨d, env1, he, ho1⟩ | ⟨x, e0, he, rfl⟩
  · obtain ⟨z, hz, rfl⟩ := lf_some ho1
    split at hz
    · rename_i hl
      cases hz
      exact ⟨w, env, _, hH, R, he, fun w' v L R' x V nn => F w' v L R' x ⟨(ow_ups n hl V.1).1, V.2.1, V.2.2⟩ nn⟩
    · cases hz
  · exact ⟨w, env, _, hH, R, he, F⟩
/-! isinstance -/
inductive Ty where
  | bl | int | str | lst | tup | dct
def Ty.nm : Ty → String
  | .bl => "bool"
  | .int => "int"
  | .str => "str"
  | .lst => "list"
  | .tup => "tuple"
  | .dct => "dict"
/-- is it a thing of that kind -/
def isiD : D → Ty → Option Bool
  | .non, _ => some false
  | .bl _, .bl => some true
  | .bl _, .int => some true
  | .bl _, _ => some false
  | .int _, .int => some true
  | .int _, _ => some false
  | .str _, .str => some true
  | .str _, _ => some false
  | .lst _, .lst => some true
  | .lst _, _ => some false
  | .tup _, .tup => some true
  | .tup _, _ => some false
  | .dct _, .dct => some true
  | .dct _, _ => some false
  | _, _ => none
def gIsi (t : Ty) (d : D) : Option D := (isiD d t).map .bl
theorem isi_ty {H : Hp} {d : D} {v : V} {t : Ty} {r : Bool} (h : isiD d t = some r) (f : Fz G.K G.CA (unl H) d v) : ∃ u, TyX G.K H v u ∧ PySem.W.kitOne G.K u (.type t.nm) = some r := by
  cases d with
  | non =>
    cases (show _ = _ from f)
    refine ⟨_, .base .non, ?_⟩
    cases t <;> cases h <;> exact kit_ty (by decide +kernel)
  | bl b =>
    cases (show _ = _ from f)
    refine ⟨_, .base (.bl b), ?_⟩
    cases t <;> cases h <;> exact kit_ty (by decide +kernel)
  | int b =>
    cases (show _ = _ from f)
    refine ⟨_, .base (.int b), ?_⟩
    cases t <;> cases h <;> exact kit_ty (by decide +kernel)
  | str b =>
    cases (show _ = _ from f)
    refine ⟨_, .base (.str b), ?_⟩
    cases t <;> cases h <;> exact kit_ty (by decide +kernel)
  | lst b =>
    obtain ⟨a, xs, rfl, h1, _⟩ := f
    refine ⟨_, .base (.lst (unl_lst h1)), ?_⟩
    cases t <;> cases h <;> exact kit_ty (by decide +kernel)
  | tup b =>
    obtain ⟨a, xs, rfl, h1, _⟩ := f
    refine ⟨_, .base (.tup (unl_tup h1)), ?_⟩
    cases t <;> cases h <;> exact kit_ty (by decide +kernel)
  | dct b =>
    obtain ⟨a, xs, rfl, h1, _⟩ := f
    rcases unl_dK h1 with h1 | ⟨o, h1⟩
    · refine ⟨_, .base (.dK h1), ?_⟩
      cases t <;> cases h <;> exact kit_ty (by decide +kernel)
    · refine ⟨_, .fDict h1, ?_⟩
      cases t <;> cases h <;> exact kit_ty (by decide +kernel)
  | dtt b => cases h
  | obj c b => cases h
  | scr b => cases h
theorem se_isi (t : Ty) (hg : Gl X "isinstance") (hm : X.mg "isinstance" = none) (ha : PE X a (tD G ms lk k E XE ca)) (hb : PE X b (tC (.ty t.nm))) (hK : X.K = G.K := by rfl) (he : starEach [a, b] X.env = (false, eval a X.env) :: starEach [b] X.env := by rfl) (he2 : starEach [b] X.env = (false, eval b X.env) :: starEach [] X.env := by rfl) (hpl : (backTo pos (starEach [b] X.env)).any (·.1) = false := by rfl)
    (hbb : bootBuiltins "isinstance" = some (.builtin "isinstance") := by decide +kernel) : PE X (.Call (.Name "isinstance" p) [a, b] [] pos) (tD G ms lk (.own 0) E XE (d1 (gIsi t) ca)) :=
  PE.weak (pe_callB call_isi hg hm hbb (pa_cons ha (pa_cons hb pa_nil he2) he) (by decide) (by decide) he hpl) fun σ H Q ⟨w, env, o, hH, R, ho, F⟩ => by
    rw [← hH]
    refine tD.bind R ho F (fun _ z => z) fun w1 env1 d v L R1 x1 V1 n1 ho1 F1 => ?_
    obtain ⟨z, hz, rfl⟩ := lf_some ho1
    obtain ⟨r, hr, rfl⟩ := Option.map_eq_some_iff.mp hz
    obtain ⟨u, h1, h2⟩ := isi_ty (G := G) hr (V1.rd R1.sub)
    exact ⟨v, .ty t.nm, u, .type t.nm, r, rfl, .ty _, by rw [hK]; exact h1, by rw [hK]; exact h2, F1 w1 _ [] R1 .refl (ValR.atom rfl) .nil⟩
end
end PD
namespace PD
open PySem PySem.Spec PyProof.Rows L2 GF
/-! ### what is not reached; augmented products -/
section
variable {X : Cx} {G : Gc} {ms lk ms' : List Nat} {E : List Nat} {R : Rt} {XE : XK} {st : Stmt}
def sStop : DS := fun _ => none
theorem ss_stop : PS X st (tS G ms lk ms' [] R XE sStop) := PS.weak ps_never fun _ _ _ ⟨_, _, _, _, _, ho, _⟩ => by cases ho
theorem iop_mulW : OpR X (inplaceOp .Mult) (rI CMulW fun i j => .int (i * j)) := opI fun _ _ _ _ _ _ _ hc q => imul_int q hc.ok
theorem iop_fdivW : OpR X (inplaceOp .FloorDiv) (rI CDivW fun i j => .int (i / j)) := opI fun i j _ _ _ _ _ hc q => by
  have h1 : (0 : Int) < j := hc.1
  exact ifloordiv_int (by omega) (by rw [Int.fdiv_eq_ediv_of_nonneg i (by omega)]; exact q) (.inl (PyProof.noPylong_of_log2 hc.2))
theorem guards_of {A : Around} {e : Env} (h : A.guards = some []) : (A.deeper e).guards = some [] := h
end
end PD
namespace PD
open PySem PySem.Spec PyProof.Rows L2 GF
/-! ### dicts that are walked -/
/-- what an expression gives may be locked at once -/
theorem _root_.L2.PE.lockv {X : Cx} {e : Expr} {t : TE} (h : PE X e t) : PE X e (fun σ H Q => t σ H fun v H1 => Q v H1 ∨ ∃ d u, v = .ref d ∧ H1 d = some u ∧ Mut (some u) ∧ ∀ od, Q v (upd H1 d (.frz od u))) := by
  refine ⟨fun pins s σ H Q I hw => ?_⟩
  refine thn (h.run pins s σ H _ I hw) fun v s1 q => ?_
  obtain ⟨x, H1, I1, r, q⟩ := q
  rcases q with q | ⟨d, u, rfl, hd, mu, q⟩
  · exact ⟨x, H1, I1, r, q⟩
  · obtain ⟨od, I2⟩ := I1.lock hd mu
    exact ⟨_, _, I2, r, q od⟩
theorem unl_lock {H : Hp} {a : Addr} {u : HO} {od : Obj} (h : H a = some u) (k : isDk u = true) : unl (upd H a (.frz od u)) = unl H := by
  funext b
  unfold unl
  by_cases e : b = a
  · subst e; rw [upd_same, h]; cases u <;> first | (cases k; done) | rfl
  · rw [upd_ne e]
def kD : Key → D
  | .inl i => .int i
  | .inr s => .str s
theorem kD_fz {K : PySem.W.Frag} {CA : Str → Addr} {Z : Hp} (k : Key) : Fz K CA Z (kD k) (kV k) := by cases k <;> rfl
theorem kDs_fz {K : PySem.W.Frag} {CA : Str → Addr} {Z : Hp} : ∀ ks : List Key, FzA K CA Z (ks.map kD) (ks.map kV)
  | [] => rfl
  | k :: ks => ⟨_, _, rfl, kD_fz k, kDs_fz ks⟩
section
variable {X : Cx} {K : PySem.W.Frag} {G : Gc} {ms lk ms' : List Nat} {k ka kb : Kd} {bs E E1 Ea Eb : List Nat} {R : Rt} {XE : XK} {pos p apos cpos tpos : Pos} {a b e tg iter : Expr} {es elts : List Expr} {ca cb : DE} {cs : DA} {c : DS} {body : List Stmt} {Dn : Ends} {kk : Nat}
theorem Rel.lock {w : Wd} {env : Ev} {σ : L2.St} (Rl : Rel G ms lk w env σ) {a : Addr} {u : HO} {od : Obj} (hz : w.Z a = some u) (h : w.H a = some u) (k : isDk u = true) : Rel G ms lk ⟨w.Z, upd w.H a (.frz od u), w.Ls⟩ env σ := by
  refine ⟨by show Same w.Z (unl (upd w.H a (.frz od u))); rw [unl_lock h k]; exact Rl.sub, Rl.len, fun i d hd => ?_, Rl.emp, Rl.nd, Rl.dj, Rl.zn, fun i hi b hb => ?_, Rl.pin, fun b xs e => ?_⟩
  · show ∃ v, σ[i]? = some (some v) ∧ Ow G.K G.CA w.Z (unl (upd w.H a (.frz od u))) (md ms i) d v (w.Ls i)
    rw [unl_lock h k]; exact Rl.slot i d hd
  · show unl (upd w.H a (.frz od u)) b = upd w.H a (.frz od u) b
    rw [unl_lock h k, upd_ne fun z => by subst z; rw [Rl.zn i b hb] at hz; cases hz]
    exact Rl.nl i hi b hb
  · have e : upd w.H a (.frz od u) b = some (.tup xs) := e
    by_cases z : b = a
    · subst z; rw [upd_same] at e; cases e
    · rw [upd_ne z] at e; exact Rl.tz b xs e
theorem Ext.lock {w : Wd} {a : Addr} {u : HO} {od : Obj} (hz : w.Z a = some u) (h : w.H a = some u) (k : isDk u = true) : Ext E w ⟨w.Z, upd w.H a (.frz od u), w.Ls⟩ := by
  refine ⟨fun _ _ z => z, fun b o e _ => ?_, fun _ z1 z2 => absurd z2 z1, fun _ _ => rfl, fun j hj b hb _ => ⟨j, hj, hb⟩, fun b hb => ?_⟩
  · by_cases z : b = a
    · subst z
      rw [h] at e; cases e
      exact .inr ⟨hz, k, od, upd_same⟩
    · exact .inl (by show upd w.H a _ b = _; rw [upd_ne z]; exact e)
  · show upd w.H a _ b ≠ none
    by_cases z : b = a
    · subst z; rw [upd_same]; simp
    · rw [upd_ne z]; exact hb
/-- a frozen dict, locked -/
theorem lk_of {w w1 : Wd} {env1 : Ev} {σ : L2.St} {a : Addr} {u : HO} (P : V → Hp → Prop) (R1 : Rel G ms lk w1 env1 σ) (x1 : Ext E w w1) (hz : w1.Z a = some u) (k : isDk u = true)
    (hp : ∀ w2 od, Rel G ms lk w2 env1 σ → Ext E w w2 → w2.Z = w1.Z → w2.H a = some (.frz od u) → P (.ref a) w2.H) :
    P (.ref a) w1.H ∨ ∃ d u, V.ref a = .ref d ∧ w1.H d = some u ∧ Mut (some u) ∧ ∀ od, P (.ref a) (upd w1.H d (.frz od u)) := by
  have r : Rd w1.H a u := by
    cases u <;> first | (cases k; done) | exact unl_dK (R1.sub _ _ hz) | exact unl_dT (R1.sub _ _ hz)
  rcases r with h | ⟨od, h⟩
  · refine .inr ⟨a, u, rfl, h, by cases u <;> first | (cases k; done) | trivial, fun od => ?_⟩
    exact hp ⟨w1.Z, upd w1.H a (.frz od u), w1.Ls⟩ od (R1.lock hz h k) (x1.trans (Ext.lock hz h k)) rfl upd_same
  · exact .inl (hp w1 od R1 x1 rfl h)
theorem stayL {w0 wi : Wd} {E' : List Nat} {env : Ev} {σ : L2.St} (R0 : Rel G ms lk w0 env σ) (xi : Ext E' w0 wi) {a : Addr} {od : Obj} {u : HO} (hz : w0.Z a ≠ none) (h : w0.H a = some (.frz od u)) : wi.H a = some (.frz od u) :=
  (xi.hh a _ h fun j _ z => hz (R0.zn j a z)).resolve_right fun q => by cases q.2.1
/-- the keys of a dict, of a list the items -/
def itK : D → Option (List D)
  | .dct ks => some (ks.map fun p => kD p.1)
  | .dtt ks => if (ks.all fun p => decide (p.1.length ≤ 8)) = true then some (ks.map fun p => .tup (p.1.map kD)) else none
  | d => itD d
def itKE (a : DE) : DA := bnd a fun d => lf (itK d)
def itemsD : D → Option (List D)
  | .dct ks => some (ks.map fun p => .tup [kD p.1, p.2])
  | _ => none
def itemsE (a : DE) : DA := bnd a fun d => lf (itemsD d)
def valsD : D → Option (List D)
  | .dct ks => some (ks.map fun p => p.2)
  | _ => none
def valsE (a : DE) : DA := bnd a fun d => lf (valsD d)
def keysD : D → Option (List D)
  | .dct ks => some (ks.map fun p => kD p.1)
  | _ => none
def keysE (a : DE) : DA := bnd a fun d => lf (keysD d)
theorem si_items (ha : PE X a (tD G ms lk (.own 0) E XE ca)) (hbase : attributeBase a "items" X.env (eval a X.env) = eval a X.env := by rfl) (hline : (apos.endLine == cpos.line) = true := by rfl) :
    PI X (.Tuple elts kk tpos) (.Call (.Attribute a "items" apos) [] [] cpos) (tI G ms lk [] E XE (itemsE ca)) := PI.weak (pi_items ha.lockv hbase hline) fun σ H Rr ⟨w, env, o, hH, Rl, ho, F⟩ => by
  rw [← hH]
  rcases bnd_some ho with ⟨d, env1, he, ho1⟩ | ⟨x, e0, he, rfl⟩
  · obtain ⟨items, hz, rfl⟩ := lf_some ho1
    refine ⟨w, env, _, rfl, Rl, he, fun w1 v L R1 x1 V1 n1 => ?_⟩
    cases d with
    | dct ks =>
      cases hz
      obtain ⟨⟨_, a0, xs, rfl, h1, h2, h3⟩, _⟩ := V1
      refine lk_of (fun x H1 => ∃ d o kvs, x = V.ref d ∧ H1 d = some (HO.frz o (HO.dK kvs)) ∧ Rr (Iti d o kvs) H1) R1 x1 h1 rfl fun w2 od R2 x2 ez hl => ⟨a0, od, xs, rfl, hl, F w2 _ R2 x2 (iter_walk (walk_items (kvs := xs)) (by rw [List.length_map, h3.e.len]) fun E' wi xi hb s => ?_)⟩
      refine ⟨stayL R2 xi (by rw [ez, h1]; simp) hl, fun i d x H' ed hy => .inr ?_⟩
      obtain ⟨T, x0, y0, rfl, hT, hH, hx, hy⟩ := hy
      rw [List.getElem?_map] at ed
      cases e1 : ks[i]? with
      | none => rw [e1] at ed; cases ed
      | some q =>
        rw [e1] at ed; cases ed
        obtain ⟨u, e2, q2⟩ := h3.e.at e1
        dsimp only at hx hy
        rw [e2] at hx hy
        cases hx; cases hy
        exact ⟨T, [kV q.1, u], _, rfl, rfl, hT, hH, ⟨_, _, rfl, kD_fz _, _, _, rfl, q2.same (by rw [← ez]; exact xi.zz), rfl⟩, by show 2 ≤ sizeLine; decide⟩
    | _ => cases hz
  · exact ⟨w, env, _, rfl, Rl, he, F⟩
theorem si_vals (ha : PE X a (tD G ms lk (.own 0) E XE ca)) (hbase : attributeBase a "values" X.env (eval a X.env) = eval a X.env := by rfl) (hline : (apos.endLine == cpos.line) = true := by rfl) :
    PI X tg (.Call (.Attribute a "values" apos) [] [] cpos) (tI G ms lk [] E XE (valsE ca)) := PI.weak (pi_values ha.lockv hbase hline) fun σ H Rr ⟨w, env, o, hH, Rl, ho, F⟩ => by
  rw [← hH]
  rcases bnd_some ho with ⟨d, env1, he, ho1⟩ | ⟨x, e0, he, rfl⟩
  · obtain ⟨items, hz, rfl⟩ := lf_some ho1
    refine ⟨w, env, _, rfl, Rl, he, fun w1 v L R1 x1 V1 n1 => ?_⟩
    cases d with
    | dct ks =>
      cases hz
      obtain ⟨⟨_, a0, xs, rfl, h1, h2, h3⟩, _⟩ := V1
      refine lk_of (fun x H1 => ∃ d o kvs, x = V.ref d ∧ H1 d = some (HO.frz o (HO.dK kvs)) ∧ Rr (Itd d o kvs) H1) R1 x1 h1 rfl fun w2 od R2 x2 ez hl => ⟨a0, od, xs, rfl, hl, F w2 _ R2 x2 (iter_walk (walk_values (kvs := xs)) (by rw [List.length_map, h3.e.len]) fun E' wi xi hb s => ?_)⟩
      refine ⟨stayL R2 xi (by rw [ez, h1]; simp) hl, fun i d x H' ed hy => .inl ?_⟩
      obtain ⟨rfl, k0, hk⟩ := hy
      rw [List.getElem?_map] at ed
      cases e1 : ks[i]? with
      | none => rw [e1] at ed; cases ed
      | some q =>
        rw [e1] at ed; cases ed
        obtain ⟨u, e2, q2⟩ := h3.e.at e1
        rw [e2] at hk
        cases hk
        exact ⟨rfl, q2.same (by rw [← ez]; exact xi.zz)⟩
    | _ => cases hz
  · exact ⟨w, env, _, rfl, Rl, he, F⟩
theorem si_keysM (ha : PE X a (tD G ms lk (.own 0) E XE ca)) (hbase : attributeBase a "keys" X.env (eval a X.env) = eval a X.env := by rfl) (hline : (apos.endLine == cpos.line) = true := by rfl) :
    PI X tg (.Call (.Attribute a "keys" apos) [] [] cpos) (tI G ms lk [] E XE (keysE ca)) := PI.weak (pi_keysM ha.lockv hbase hline) fun σ H Rr ⟨w, env, o, hH, Rl, ho, F⟩ => by
  rw [← hH]
  rcases bnd_some ho with ⟨d, env1, he, ho1⟩ | ⟨x, e0, he, rfl⟩
  · obtain ⟨items, hz, rfl⟩ := lf_some ho1
    refine ⟨w, env, _, rfl, Rl, he, fun w1 v L R1 x1 V1 n1 => ?_⟩
    cases d with
    | dct ks =>
      cases hz
      obtain ⟨⟨_, a0, xs, rfl, h1, h2, h3⟩, _⟩ := V1
      refine lk_of (fun x H1 => ∃ d o kvs, x = V.ref d ∧ H1 d = some (HO.frz o (HO.dK kvs)) ∧ Rr (Itk d o kvs) H1) R1 x1 h1 rfl fun w2 od R2 x2 ez hl => ⟨a0, od, xs, rfl, hl, F w2 _ R2 x2 (iter_walk (walk_keys (kvs := xs)) (by rw [List.length_map, h3.e.len]) fun E' wi xi hb s => ?_)⟩
      refine ⟨stayL R2 xi (by rw [ez, h1]; simp) hl, fun i d x H' ed hy => .inl ?_⟩
      obtain ⟨rfl, k0, v0, hk, rfl⟩ := hy
      rw [List.getElem?_map] at ed
      cases e1 : ks[i]? with
      | none => rw [e1] at ed; cases ed
      | some q =>
        rw [e1] at ed; cases ed
        obtain ⟨u, e2, q2⟩ := h3.e.at e1
        rw [e2] at hk
        cases hk
        exact ⟨rfl, kD_fz _⟩
    | _ => cases hz
  · exact ⟨w, env, _, rfl, Rl, he, F⟩
/-- for k in d, where d may be a dict -/
theorem si_keys (ha : PE X a (tD G ms lk (.own 0) E XE ca)) (hK : X.K = G.K := by rfl) : PI X tg a (tI G ms lk [] E XE (itKE ca)) := PI.weak (PI.or (si_seq ha rfl rfl hK) (pi_keys ha.lockv)) fun σ H Rr ⟨w, env, o, hH, Rl, ho, F⟩ => by
  rcases bnd_some ho with ⟨d, env1, he, ho1⟩ | ⟨x, e0, he, rfl⟩
  · by_cases dic : isDic d = true
    · right
      rw [← hH]
      obtain ⟨items, hz, rfl⟩ := lf_some ho1
      refine ⟨w, env, _, rfl, Rl, he, fun w1 v L R1 x1 V1 n1 => ?_⟩
      cases d with
      | dct ks =>
        cases hz
        obtain ⟨⟨_, a0, xs, rfl, h1, h2, h3⟩, _⟩ := V1
        refine lk_of (fun x H1 => ∃ d o, x = V.ref d ∧ ((∃ kvs, H1 d = some (.frz o (.dK kvs)) ∧ Rr (Itk d o kvs) H1) ∨ ∃ kvs, H1 d = some (.frz o (.dT kvs)) ∧ Rr (Itkt d o kvs) H1)) R1 x1 h1 rfl fun w2 od R2 x2 ez hl => ⟨a0, od, rfl, .inl ⟨xs, hl, F w2 _ R2 x2 (iter_walk (walk_keys (kvs := xs)) (by rw [List.length_map, h3.e.len]) fun E' wi xi hb s => ?_)⟩⟩
        refine ⟨stayL R2 xi (by rw [ez, h1]; simp) hl, fun i d x H' ed hy => .inl ?_⟩
        obtain ⟨rfl, k0, v0, hk, rfl⟩ := hy
        rw [List.getElem?_map] at ed
        cases e1 : ks[i]? with
        | none => rw [e1] at ed; cases ed
        | some q =>
          rw [e1] at ed; cases ed
          obtain ⟨u, e2, q2⟩ := h3.e.at e1
          rw [e2] at hk
          cases hk
          exact ⟨rfl, kD_fz _⟩
      | dtt ks =>
        have hz : (if (ks.all fun p => decide (p.1.length ≤ 8)) = true then some (ks.map fun p => D.tup (p.1.map kD)) else none) = some items := hz
        by_cases h8 : (ks.all fun p => decide (p.1.length ≤ 8)) = true
        rotate_left
        · rw [if_neg h8] at hz; cases hz
        rw [if_pos h8] at hz
        cases hz
        obtain ⟨⟨_, a0, xs, rfl, h1, h2, h3⟩, _⟩ := V1
        refine lk_of (fun x H1 => ∃ d o, x = V.ref d ∧ ((∃ kvs, H1 d = some (.frz o (.dK kvs)) ∧ Rr (Itk d o kvs) H1) ∨ ∃ kvs, H1 d = some (.frz o (.dT kvs)) ∧ Rr (Itkt d o kvs) H1)) R1 x1 h1 rfl fun w2 od R2 x2 ez hl => ⟨a0, od, rfl, .inr ⟨xs, hl, F w2 _ R2 x2 fun E' wi xi hb s tz => ?_⟩⟩
        have W := walk_keysT (d := a0) (o := od) (kvs := xs)
        have st := stayL R2 xi (by rw [ez, h1]; simp) hl
        have ln : (List.map (fun p : List Key × D => D.tup (p.1.map kD)) ks).length = xs.length := by rw [List.length_map, h3.e.len]
        refine ⟨fun i hi => W.goes i _ (by rw [← ln]; exact hi) st, by rw [ln]; exact W.stops _ st, fun i d y H' ed q => .inl ?_⟩
        obtain ⟨rfl, k0, v0, q0, hk, rfl, hq⟩ := W.yields i _ y H' (by rw [← ln]; exact (List.getElem?_eq_some_iff.mp ed).1) st q
        rw [List.getElem?_map] at ed
        cases e1 : ks[i]? with
        | none => rw [e1] at ed; cases ed
        | some q =>
          rw [e1] at ed; cases ed
          obtain ⟨u, e2, q2⟩ := h3.e.at e1
          rw [e2] at hk
          cases hk
          refine ⟨rfl, q0, _, rfl, tz _ _ hq, ?_, kDs_fz _⟩
          rw [List.length_map]
          exact Nat.le_trans (of_decide_eq_true (List.all_eq_true.mp h8 q (List.mem_of_getElem? e1))) (by show 8 ≤ sizeLine; decide)
      | _ => cases dic
    · left
      refine ⟨w, env, o, hH, Rl, ?_, F⟩
      unfold itE bnd
      rw [he]
      cases d <;> first | exact ho1 | exact absurd rfl dic
  · left
    refine ⟨w, env, .ex x e0, hH, Rl, ?_, F⟩
    unfold itE bnd
    rw [he]
end
end PD
namespace PD
open PySem PySem.Spec PyProof.Rows L2 GF
/-! ### stores into many names -/
section
variable {X : Cx} {K : PySem.W.Frag} {G : Gc} {ms lk ms' : List Nat} {k ka kb : Kd} {bs E E1 Ea Eb : List Nat} {R : Rt} {XE : XK} {pos p apos cpos tpos : Pos} {a b e tg iter : Expr} {es elts : List Expr} {ca cb : DE} {cs : DA} {c : DS} {body : List Stmt} {Dn : Ends} {kk : Nat}
def setM : List Nat → List Nat → List Nat → List Nat
  | i :: is, m :: mm, ms => setM is mm (ms.set i m)
  | _, _, ms => ms
def sPar (is : List Nat) (cs : DA) : DS := bndS cs fun ds e => if ds.length = is.length then some (.nx (setL is ds e)) else none
theorem VA.put {w : Wd} {i n : Nat} {L1 : List Addr} : ∀ {mm : List Nat} {ds : List D} {vs : List V} {L : List Addr}, VA G w (mm.map Kd.own) ds vs L → (∀ a ∈ L, a ∉ L1) → VA G ⟨w.Z, w.H, fun j => if j = i then (if i < n then L1 else []) else w.Ls j⟩ (mm.map Kd.own) ds vs L
  | [], _, _, _, h, _ => h
  | m :: mm, _, _, _, h, n => by
    obtain ⟨d, ds', v, vs', La, Lb, rfl, rfl, rfl, h1, h2, h3⟩ := h
    refine ⟨d, ds', v, vs', La, Lb, rfl, rfl, rfl, ⟨h1.1, h1.2.1, fun a ha => ⟨(h1.2.2 a ha).1, fun j => ?_, (h1.2.2 a ha).2.2⟩⟩, VA.put h2 fun a ha => n a (List.mem_append_right _ ha), h3⟩
    show a ∉ (if j = i then _ else w.Ls j)
    split
    · split
      · exact n a (List.mem_append_left _ ha)
      · simp
    · exact (h1.2.2 a ha).2.1 j
theorem parPuts : ∀ {is mm : List Nat} {ds : List D} {vs : List V} {L : List Addr} {ms : List Nat} {w : Wd} {env : Ev} {σ : L2.St}, is.length = mm.length → Rel G ms lk w env σ → VA G w (mm.map Kd.own) ds vs L → (∀ i ∈ is, i < ms.length ∧ i ∉ G.pins) →
    ∃ w', Rel G (setM is mm ms) lk w' (setL is ds env) ((is.zip vs).foldl (fun s q => s.set q.1 (some q.2)) σ) ∧ w'.H = w.H ∧ w'.Z = w.Z ∧ (∀ j, j ∉ is → w'.Ls j = w.Ls j) ∧ ∀ j a, a ∈ w'.Ls j → a ∈ w.Ls j ∨ (a ∈ L ∧ j ∈ is)
  | [], [], _, _, _, _, w, _, _, _, Rl, h, _ => by
    obtain ⟨rfl, rfl, rfl⟩ := h
    exact ⟨w, Rl, rfl, rfl, fun _ _ => rfl, fun _ _ h => .inl h⟩
  | i :: is, m :: mm, _, _, _, ms, w, env, σ, hl, Rl, h, hi => by
    obtain ⟨d, ds', v, vs', La, Lb, rfl, rfl, rfl, h1, h2, h3⟩ := h
    obtain ⟨i1, i2⟩ := hi i List.mem_cons_self
    have R1 := Rl.put (i := i) (m := m) h1 i1 i2
    obtain ⟨w', q1, q2, q3, q4, q5⟩ := parPuts (is := is) (mm := mm) (by simpa using hl) R1 (VA.put h2 fun a ha z => h3 m rfl a z ha) fun j hj => ⟨by rw [List.length_set]; exact (hi j (List.mem_cons_of_mem _ hj)).1, (hi j (List.mem_cons_of_mem _ hj)).2⟩
    refine ⟨w', q1, q2, q3, fun j hj => ?_, fun j a ha => ?_⟩
    · rw [q4 j fun z => hj (List.mem_cons_of_mem _ z)]
      show (if j = i then _ else w.Ls j) = _
      rw [if_neg fun z => hj (by rw [z]; exact List.mem_cons_self)]
    · rcases q5 j a ha with y | ⟨y, y2⟩
      · have y : a ∈ (if j = i then (if i < env.length then La else []) else w.Ls j) := y
        split at y
        · rename_i e
          split at y
          · exact .inr ⟨List.mem_append_left _ y, by rw [e]; exact List.mem_cons_self⟩
          · cases y
        · exact .inl y
      · exact .inr ⟨List.mem_append_right _ y, List.mem_cons_of_mem _ y2⟩
  | [], _ :: _, _, _, _, _, _, _, _, hl, _, _, _ => by cases hl
  | _ :: _, [], _, _, _, _, _, _, _, hl, _, _, _ => by cases hl
theorem bsA_map {mm : List Nat} : bsA (mm.map Kd.own) = [] := by
  induction mm with
  | nil => rfl
  | cons m mm ih => exact ih
theorem tPar_of {is mm : List Nat} (hl : is.length = mm.length) (hi : ∀ i ∈ is, i < ms.length ∧ i ∉ G.pins) {σ : L2.St} {H : Hp} (h : tS G ms lk (setM is mm ms) (is ++ Ea) R XE (sPar is cs) Dn σ H) :
    tA G ms lk (mm.map Kd.own) Ea XE cs σ H fun vs H1 => vs.length = is.length ∧ Dn.nx ((is.zip vs).foldl (fun s q => s.set q.1 (some q.2)) σ) H1 := by
  obtain ⟨w, env, o, hH, Rl, ho, F⟩ := h
  rw [← hH]
  unfold sPar bndS at ho
  cases e : cs env with
  | none => rw [e] at ho; cases ho
  | some o1 =>
    rw [e] at ho
    refine ⟨w, env, o1, rfl, Rl, e, ?_⟩
    cases o1 with
    | ex x e1 => cases ho; exact fun w' p R' x' P => F w' p σ (.inr trivial) (x'.mono fun j hj => List.mem_append_right _ hj) P
    | ok ds e1 =>
      intro w1 vs L R1 x1 V1 n1
      dsimp only at ho
      split at ho
      · rename_i hlen
        cases ho
        obtain ⟨w', q1, q2, q3, q4, q5⟩ := parPuts hl R1 V1 hi
        refine ⟨by rw [V1.len.2, List.length_map]; exact hl.symm, ?_⟩
        rw [← q2]
        refine F w' _ q1 ⟨fun a o h => by rw [q3]; exact x1.zz a o h, fun a o h n => by rw [q2]; exact x1.hh a o h fun j hj => n j (List.mem_append_right _ hj), fun a z1 z2 z3 => ?_, fun j hj => ?_, fun j hj a ha hn => ?_, fun a h => by rw [q2]; exact x1.al a h⟩
        · rw [q3] at z1
          obtain ⟨j, hj, q⟩ := x1.zn a z1 z2 z3
          exact ⟨j, List.mem_append_right _ hj, q⟩
        · rw [q4 j fun z => hj (List.mem_append_left _ z)]
          exact x1.ll j fun z => hj (List.mem_append_right _ z)
        · rcases q5 j a ha with y | ⟨y, y2⟩
          · obtain ⟨i, q, hi⟩ := x1.back y hn
            rcases hi with rfl | hi
            · exact ⟨i, hj, q⟩
            · exact ⟨i, List.mem_append_right _ hi, q⟩
          · obtain ⟨i, hi, q⟩ := n1 a y hn
            rcases hi with hi | hi
            · exact ⟨i, List.mem_append_right _ hi, q⟩
            · rw [bsA_map] at hi; cases hi
      · cases ho
theorem ss_par {i j m n : Nat} {x y : Str} {px py pt : Pos} {kt k2 pt2} (hc : X.calm = true) (hN : X.N.Nodup) (hi : X.N[i]? = some x) (hj : X.N[j]? = some y) (hij : i ≠ j) (hx : X.env.scope.names.lookup x = some .local) (hy : X.env.scope.names.lookup y = some .local)
    (ha : PA X [a, b] (tA G ms lk ([m, n].map Kd.own) Ea XE cs)) (hw : swappedStores [.Tuple [.Name x px, .Name y py] kt pt] (.Tuple [a, b] k2 pt2) X.env = pure (some [x, y])) (hp : ∀ l ∈ [i, j], l < ms.length ∧ l ∉ G.pins := by try dsimp only; decide +kernel)
    (hs : swapsWithSole [.Tuple [.Name x px, .Name y py] kt pt] (.Tuple [a, b] k2 pt2) pos.line X.env = pure false := by rfl) :
    PS X (.Assign [.Tuple [.Name x px, .Name y py] kt pt] (.Tuple [a, b] k2 pt2) pos) (tS G ms lk (setM [i, j] [m, n] ms) ([i, j] ++ Ea) R XE (sPar [i, j] cs)) := PS.weak (ps_par hc hN hi hj hij hx hy ha hw hs) fun Dn σ H h => by
  have q := tPar_of (is := [i, j]) (mm := [m, n]) rfl hp h
  obtain ⟨w, env, o, hH, Rl, ho, F⟩ := q
  refine ⟨w, env, o, hH, Rl, ho, ?_⟩
  cases o with
  | ex x e => exact F
  | ok ds e =>
    intro w' vs L R' x' V' n'
    obtain ⟨hl, q⟩ := F w' vs L R' x' V' n'
    match vs, hl, q with
    | [u, v], _, q => exact ⟨u, v, rfl, q⟩
theorem ss_par3 {i j l m n r : Nat} {x y z : Str} {c : Expr} {px py pz pt : Pos} {kt k2 pt2} (hc : X.calm = true) (hN : X.N.Nodup) (hi : X.N[i]? = some x) (hj : X.N[j]? = some y) (hl : X.N[l]? = some z) (hij : i ≠ j) (hil : i ≠ l) (hjl : j ≠ l)
    (hx : X.env.scope.names.lookup x = some .local) (hy : X.env.scope.names.lookup y = some .local) (hz : X.env.scope.names.lookup z = some .local)
    (ha : PA X [a, b, c] (tA G ms lk ([m, n, r].map Kd.own) Ea XE cs)) (hw : swappedStores [.Tuple [.Name x px, .Name y py, .Name z pz] kt pt] (.Tuple [a, b, c] k2 pt2) X.env = pure (some [x, y, z])) (hp : ∀ u0 ∈ [i, j, l], u0 < ms.length ∧ u0 ∉ G.pins := by try dsimp only; decide +kernel)
    (hs : swapsWithSole [.Tuple [.Name x px, .Name y py, .Name z pz] kt pt] (.Tuple [a, b, c] k2 pt2) pos.line X.env = pure false := by rfl) :
    PS X (.Assign [.Tuple [.Name x px, .Name y py, .Name z pz] kt pt] (.Tuple [a, b, c] k2 pt2) pos) (tS G ms lk (setM [i, j, l] [m, n, r] ms) ([i, j, l] ++ Ea) R XE (sPar [i, j, l] cs)) := PS.weak (ps_par3 hc hN hi hj hl hij hil hjl hx hy hz ha hw hs) fun Dn σ H h => by
  have q := tPar_of (is := [i, j, l]) (mm := [m, n, r]) rfl hp h
  obtain ⟨w, env, o, hH, Rl, ho, F⟩ := q
  refine ⟨w, env, o, hH, Rl, ho, ?_⟩
  cases o with
  | ex x e => exact F
  | ok ds e =>
    intro w' vs L R' x' V' n'
    obtain ⟨hl, q⟩ := F w' vs L R' x' V' n'
    match vs, hl, q with
    | [u, v, t], _, q => exact ⟨u, v, t, rfl, q⟩
theorem VA.extO {E : List Nat} {w w' : Wd} (x : Ext E w w') (dz : DZ w) : ∀ {mm : List Nat} {ds : List D} {vs : List V} {L : List Addr}, VA G w (mm.map Kd.own) ds vs L → VA G w' (mm.map Kd.own) ds vs L
  | [], _, _, _, h => h
  | m :: mm, _, _, _, h => by
    obtain ⟨d, ds', v, vs', La, Lb, rfl, rfl, rfl, h1, h2, h3⟩ := h
    exact ⟨d, ds', v, vs', La, Lb, rfl, rfl, rfl, h1.ext x (fun _ z => by cases z) dz, VA.extO x dz h2, h3⟩
/-- a, b = x, y where a name is shared with an inner block: by way of a tuple -/
theorem ss_parT {is mm : List Nat} {g : TG} {k2 pt2} (T : TgS G.K (.tp is) g) (pg : PG X tg g) (ha : PA X es (tA G ms lk (mm.map Kd.own) Ea XE cs)) (hl : is.length = mm.length := by rfl) (hz : mm.length ≤ sizeLine := by show _ ≤ _; decide) (hi : ∀ i ∈ is, i < ms.length ∧ i ∉ G.pins := by try dsimp only; decide +kernel)
    (hs : swapsWithSole [tg] (.Tuple es k2 pt2) pos.line X.env = pure false := by rfl) (hw : swappedStores [tg] (.Tuple es k2 pt2) X.env = pure none := by rfl) (h1 : (assignEach [tg] X.env).map (·.2) = [assign tg X.env] := by rfl) :
    PS X (.Assign [tg] (.Tuple es k2 pt2) pos) (tS G ms lk (setM is mm ms) (is ++ Ea) R XE (sPar is cs)) := PS.weak (ps_asg (pe_tup ha) pg hs hw h1) fun Dn σ H ⟨w, env, o, hH, Rl, ho, F⟩ => by
  rw [← hH]
  unfold sPar bndS at ho
  cases e : cs env with
  | none => rw [e] at ho; cases ho
  | some o1 =>
    rw [e] at ho
    refine ⟨w, env, o1, rfl, Rl, e, ?_⟩
    cases o1 with
    | ex x e1 => cases ho; exact fun w' p R' x' P => F w' p σ (.inr trivial) (x'.mono fun j hj => List.mem_append_right _ hj) P
    | ok ds e1 =>
      intro w1 vs L R1 x1 V1 n1
      dsimp only at ho
      split at ho
      · rename_i hlen
        cases ho
        have hvl : vs.length = mm.length := by rw [V1.len.2, List.length_map]
        refine ⟨by rw [hvl]; exact hz, fun q hq => ?_⟩
        have zq := R1.zn0 hq
        have R2 := R1.allocT (xs := vs) hq
        have x2 : Ext Ea w1 ⟨upd w1.Z q (.tup vs), upd w1.H q (.tup vs), w1.Ls⟩ := Ext.allocT hq zq
        obtain ⟨w', q1, q2, q3, q4, q5⟩ := parPuts hl R2 (V1.extO x2 R1.dz) hi
        have x12 := x1.trans x2
        refine T.many is rfl vs q σ _ _ (.inl (.inl upd_same)) (by rw [hvl]; exact hl.symm) ?_
        have e0 : w'.H = upd w1.H q (.tup vs) := q2
        rw [← e0]
        refine F w' _ q1 ⟨fun a o h => by rw [q3]; exact x12.zz a o h, fun a o h n => by rw [q2]; exact x12.hh a o h fun j hj => n j (List.mem_append_right _ hj), fun a z1 z2 z3 => ?_, fun j hj => ?_, fun j hj a ha hn => ?_, fun a h => by rw [q2]; exact x12.al a h⟩
        · rw [q3] at z1
          obtain ⟨j, hj, q⟩ := x12.zn a z1 z2 z3
          exact ⟨j, List.mem_append_right _ hj, q⟩
        · rw [q4 j fun z => hj (List.mem_append_left _ z)]
          exact x12.ll j fun z => hj (List.mem_append_right _ z)
        · rcases q5 j a ha with y | ⟨y, y2⟩
          · obtain ⟨i, q, hi⟩ := x12.back y hn
            rcases hi with rfl | hi
            · exact ⟨i, hj, q⟩
            · exact ⟨i, List.mem_append_right _ hi, q⟩
          · obtain ⟨i, hi, q⟩ := n1 a y hn
            rcases hi with hi | hi
            · exact ⟨i, List.mem_append_right _ hi, q⟩
            · rw [bsA_map] at hi; cases hi
      · cases ho
/-- a, b = e -/
def sAsg (t : Tg) (ca : DE) : DS := bndS ca fun d e => (asgT t d e).map .nx
theorem ss_asgT {t : Tg} {g : TG} (T : TgS G.K t g) (pg : PG X tg g) (ha : PE X a (tD G ms lk (.own 0) Ea XE ca)) (hi : ∀ i ∈ t.sl, i < ms.length ∧ ms.set i 0 = ms ∧ i ∉ G.pins := by try dsimp only; decide +kernel)
    (hs : swapsWithSole [tg] a pos.line X.env = pure false := by rfl) (hw : swappedStores [tg] a X.env = pure none := by rfl) (h1 : (assignEach [tg] X.env).map (·.2) = [assign tg X.env] := by rfl) :
    PS X (.Assign [tg] a pos) (tS G ms lk ms (t.sl ++ Ea) R XE (sAsg t ca)) := PS.weak (ps_asg ha pg hs hw h1) fun Dn σ H ⟨w, env, o, hH, Rl, ho, F⟩ => by
  rw [← hH]
  refine tD.bindS (E := t.sl ++ Ea) Rl ho F (fun j hj => List.mem_append_right _ hj) fun w1 env1 d v L R1 x1 V1 n1 ho1 F1 => ?_
  obtain ⟨e2, he, rfl⟩ := Option.map_eq_some_iff.mp ho1
  refine asg_of T (w := w1) (d := d) (env1 := e2) R1 hi he (.inl ⟨rfl, V1.1.2⟩) fun w' σ' R' x' _ => F1 w' σ' R' (x'.mono fun j hj => List.mem_append_left _ hj)
/-- return name, frozen -/
theorem ss_retF {i : Nat} (ha : PE X a (tVar i)) (hk : R.k = 0) (hi : i < ms.length := by decide) (hio : ∀ p ∈ R.io, md ms p.1 = p.2 ∧ p.1 ∉ lk ∧ p.1 ≠ i := by decide) : PS X (.Return (some a) pos) (tS G ms lk ms' [i] R XE (sRet (dV i))) := PS.weak (ps_ret ha) fun Dn σ H ⟨w, env, o, hH, Rl, ho, F⟩ => by
  rw [← hH]
  have hd : ∃ d, env[i]? = some (some d) ∧ o = .rt d env := by
    unfold sRet bndS dV at ho
    cases e : env[i]? with
    | none => rw [e] at ho; cases ho
    | some x =>
      cases x with
      | none => rw [e] at ho; cases ho
      | some d => rw [e] at ho; cases ho; exact ⟨d, rfl, rfl⟩
  obtain ⟨d, hd, rfl⟩ := hd
  rcases Ext.frz (E := [i]) (w := w) (i := i) List.mem_cons_self with y | ⟨a, ha, hz⟩
  · have R1 := Rl.frz hi
    obtain ⟨v, hv, q⟩ := R1.slot i d hd
    refine ⟨v, hv, ?_⟩
    rw [md_set hi, if_pos rfl] at q
    refine F ⟨pl w.Z (unl w.H) (w.Ls i), w.H, fun j => if j = i then [] else w.Ls j⟩ σ v [] (ms.set i 0) lk env R1 (fun p hp => ⟨by rw [md_set hi, if_neg (hio p hp).2.2]; exact (hio p hp).1, (hio p hp).2.1, rfl⟩) y (by rw [hk]; exact ⟨⟨rfl, q.2⟩, List.nodup_nil, fun _ z => by cases z⟩) .nil
  · exact absurd (Rl.zn i a ha) hz
end
end PD
namespace PD
open PySem PySem.Spec PyProof.Rows L2 GF
/-! ### dict comprehensions -/
section
variable {X : Cx} {K : PySem.W.Frag} {G : Gc} {ms lk ms' : List Nat} {k ka kb : Kd} {bs E E1 Ea Eb Ei Et Ek Ee : List Nat} {R : Rt} {XE : XK} {pos p tpos : Pos} {a b e tg iter kx vx : Expr} {es elts ifs : List Expr} {ca cb ce ck : DE} {cs : DA} {c : DS} {body : List Stmt} {Dn : Ends} {kk : Nat} {scope : Scope} {own : List (Str × Nat)}
theorem any_keys {κ α β : Type} [DecidableEq κ] : ∀ {xs : List (κ × α)} {ys : List (κ × β)} {k : κ}, xs.map (·.1) = ys.map (·.1) → (xs.any fun p => decide (p.1 = k)) = ys.any fun p => decide (p.1 = k)
  | [], [], _, _ => rfl
  | [], _ :: _, _, h => by cases h
  | _ :: _, [], _, h => by cases h
  | x :: xs, y :: ys, k, h => by
    rw [List.map_cons, List.map_cons] at h
    injection h with h1 h2
    rw [List.any_cons, List.any_cons, any_keys h2, h1]
theorem al_put {Z h : Hp} {m : Nat} {acc : List (Key × D)} {xs : List (Key × V)} {La L5 : List Addr} {key : Key} {y : D} {v : V} (hm : m = 0 ∨ (acc.any fun p => decide (p.1 = key)) = false) (g : Al3 (KR (Ow G.K G.CA Z h m)) acc xs La) (hv : Ow G.K G.CA Z h m y v L5) :
    Al3 (KR (Ow G.K G.CA Z h m)) (putD acc key y) (putK xs key v) (La ++ L5) := by
  cases hany : (acc.any fun p => decide (p.1 = key)) with
  | false =>
    have h2 : (xs.any fun p => decide (p.1 = key)) = false := by rw [any_keys g.keys]; exact hany
    unfold putD putK
    rw [hany, h2]
    exact g.append (Al3.one ⟨rfl, hv⟩)
  | true =>
    rcases hm with rfl | hm
    · obtain ⟨g1, rfl⟩ := alK0 g
      rw [hv.1]
      exact k0Al (g1.put key hv.2)
    · rw [hm] at hany; cases hany
def compD (m : Nat) (t : Tg) (tt : DB) (tk te : DE) (vs : List Nat) : List D → List (Key × D) → Ev → Option (Out (List (Key × D)))
  | [], acc, e => some (.ok acc (wipeE vs e))
  | d :: ds, acc, e => match asgT t d (wipeE vs e) with
    | none => none
    | some e1 => match tt e1 with
      | some (.ok true e2) => match tk e2 with
        | some (.ok kd e3) => match te e3 with
          | some (.ok y e4) => match keyOf kd with
            | some key => if m ≠ 0 ∧ (acc.any fun p => decide (p.1 = key)) = true then none else compD m t tt tk te vs ds (putD acc key y) e4
            | none => none
          | _ => none
        | _ => none
      | some (.ok false e2) => compD m t tt tk te vs ds acc e2
      | _ => none
def dDc (m : Nat) (it : DA) (t : Tg) (tt : DB) (tk te : DE) (vs : List Nat) : DE := bnd it fun items e => if items.length ≤ sizeLine then match compD m t tt tk te vs items [] e with
  | some (.ok acc e1) => some (.ok (.dct acc) e1)
  | _ => none
  else none
theorem tDc_of {t : Tg} {g : TG} {tt : DB} {ck : DE} {m : Nat} {vs : List Nat} (T : TgS G.K t g) (hs : ∀ i ∈ t.sl, i < ms.length ∧ ms.set i 0 = ms ∧ i ∉ G.pins) (hv : ∀ i ∈ t.sl, i ∈ vs) (hp : ∀ i ∈ vs, i ∉ G.pins) (hd : ∀ j ∈ bs, j ∉ vs ++ (Et ++ (Ek ++ Ee)))
    {σ : L2.St} {H : Hp} {Q : VK} (h : tD G ms lk (.own (m + 1)) (Ei ++ (vs ++ (Et ++ (Ek ++ Ee)))) XE (dDc m cs t tt ck ce vs) σ H Q) :
    tDc (tI G ms lk bs Ei XE cs) g (tT G ms lk Et E0 tt) (tD G ms lk (.own 0) Ek E0 ck) (tD G ms lk (.own m) Ee E0 ce) vs σ H Q := by
  obtain ⟨w, env, o, hH, Rl, ho, F⟩ := h
  have l1 : ∀ j ∈ Ei, j ∈ Ei ++ (vs ++ (Et ++ (Ek ++ Ee))) := fun j hj => List.mem_append_left _ hj
  have l2 : ∀ j ∈ vs ++ (Et ++ (Ek ++ Ee)), j ∈ Ei ++ (vs ++ (Et ++ (Ek ++ Ee))) := fun j hj => List.mem_append_right _ hj
  have lv : ∀ j ∈ vs, j ∈ vs ++ (Et ++ (Ek ++ Ee)) := fun j hj => List.mem_append_left _ hj
  have lt : ∀ j ∈ Et, j ∈ vs ++ (Et ++ (Ek ++ Ee)) := fun j hj => List.mem_append_right _ (List.mem_append_left _ hj)
  have lkk : ∀ j ∈ Ek, j ∈ vs ++ (Et ++ (Ek ++ Ee)) := fun j hj => List.mem_append_right _ (List.mem_append_right _ (List.mem_append_left _ hj))
  have le : ∀ j ∈ Ee, j ∈ vs ++ (Et ++ (Ek ++ Ee)) := fun j hj => List.mem_append_right _ (List.mem_append_right _ (List.mem_append_right _ hj))
  unfold dDc at ho
  rcases bnd_some ho with ⟨items, env1, he, ho1⟩ | ⟨x, e0, he, rfl⟩
  · refine ⟨w, env, _, hH, Rl, he, fun w1 J R1 x1 IO q hq => ?_⟩
    split at ho1
    · rename_i hsz
      split at ho1
      · rename_i accF eF hcomp
        cases ho1
        obtain ⟨w2, a1, a2, a3, a4, R2⟩ := R1.wipe vs hp
        have x2 : Ext vs w1 w2 := .wiped a1 a2 a3 a4
        have hq2 : w2.H q = none := by rw [a2]; exact hq
        let Wv : Nat → Nat → Hp → Prop := fun i n H' => ∃ wi ei acc La, wi.H = H' ∧ Rel G ms lk wi (wipeE vs ei) (L2.wipe σ vs) ∧ ValR G wi (.dct acc) (.ref q) (q :: La) (.own (m + 1)) ∧ Ext (vs ++ (Et ++ (Ek ++ Ee))) w1 wi ∧
          (∀ a ∈ La, w1.H a ≠ none → ∃ j ∈ vs ++ (Et ++ (Ek ++ Ee)), a ∈ w1.Ls j) ∧ i ≤ items.length ∧ acc.length ≤ i ∧ n = items.length - i ∧ compD m t tt ck ce vs (items.drop i) acc ei = some (.ok accF eF)
        refine ⟨Wv, ⟨items.length, ⟨w2.Z, upd w2.H q (.dK []), w2.Ls⟩, env1, [], [], by show upd w2.H q _ = _; rw [a2], R2.alloc hq2 rfl (fun _ z => by cases z), ?_, (x2.trans (Ext.alloc hq2)).mono lv, fun _ z => (by cases z), Nat.zero_le _, Nat.zero_le _, rfl, hcomp⟩, ?_⟩
        · have zq : w2.Z q = none := by
            cases e : w2.Z q with
            | none => rfl
            | some u => have := R2.sub q u e; rw [unl_none.mpr hq2] at this; cases this
          refine ⟨⟨q, [], [], rfl, unl_of upd_same rfl, Nat.zero_le _, rfl, rfl, rfl⟩, by simp, fun a ha => ?_⟩
          cases (by simpa using ha : a = q)
          exact ⟨zq, fun j z => R2.there z hq2, by rw [unl_of (H := upd w2.H q (.dK [])) upd_same rfl]; exact upd_same.symm⟩
        rintro i n H' ⟨wi, ei, acc, La, rfl, Ri, Va, xi, nw, hi, hac, rfl, hc⟩
        obtain ⟨go, stop, yld⟩ := IO _ wi xi hd Ri.sub Ri.tz
        rcases Nat.lt_or_ge i items.length with hlt | hge
        · refine .inr ⟨go i hlt, fun H' => ∃ n', n' < items.length - i ∧ Wv (i + 1) n' H', fun H' z => z, fun x H' hy => ?_⟩
          have ed : items.drop i = items[i] :: items.drop (i + 1) := List.drop_eq_getElem_cons hlt
          rw [ed] at hc
          unfold compD at hc
          cases ea : asgT t items[i] (wipeE vs ei) with
          | none => rw [ea] at hc; cases hc
          | some e1 =>
            rw [ea] at hc
            dsimp only at hc
            refine asg_of T Ri hs ea (yld i _ x H' (List.getElem?_eq_getElem hlt) hy) fun w3 σ3 R3 x3 same => ?_
            have Va3 := Va.ext x3 (fun _ z => by cases z) Ri.dz
            have x13 := xi.trans (x3.mono fun j hj => lv j (hv j hj))
            have hwipe : L2.wipe σ3 vs = L2.wipe σ vs := by
              have hlen : σ3.length = σ.length := by
                have h1 := R3.len
                have h2 := Ri.len
                rw [wipe_length] at h2
                have h3 := asgT_len ea
                omega
              refine List.ext_getElem? fun j => ?_
              rw [wipe_get, wipe_get, hlen]
              by_cases hj : j ∈ vs
              · by_cases hl : j < σ.length
                · rw [if_pos ⟨hj, hl⟩, if_pos ⟨hj, hl⟩]
                · rw [if_neg fun z => hl z.2, if_neg fun z => hl z.2, List.getElem?_eq_none (by omega), List.getElem?_eq_none (by omega)]
              · rw [if_neg fun z => hj z.1, if_neg fun z => hj z.1, same j fun z => hj (hv j z), wipe_get, if_neg fun z => hj z.1]
            refine ⟨hwipe, ?_⟩
            -- behind a turn: the def's state wiped again
            have again : ∀ (w5 : Wd) (e5 : Ev) (acc5 : List (Key × D)) (L5 : List Addr), Rel G ms lk w5 e5 σ3 → ValR G w5 (.dct acc5) (.ref q) (q :: L5) (.own (m + 1)) → Ext (vs ++ (Et ++ (Ek ++ Ee))) w1 w5 → (∀ a ∈ L5, w1.H a ≠ none → ∃ j ∈ vs ++ (Et ++ (Ek ++ Ee)), a ∈ w1.Ls j) → acc5.length ≤ i + 1 →
                compD m t tt ck ce vs (items.drop (i + 1)) acc5 e5 = some (.ok accF eF) → ∃ n', n' < items.length - i ∧ Wv (i + 1) n' w5.H := by
              intro w5 e5 acc5 L5 R5 V5 x5 n5 hl5 hc5
              obtain ⟨w6, b1, b2, b3, b4, R6⟩ := R5.wipe vs hp
              have x6 : Ext vs w5 w6 := .wiped b1 b2 b3 b4
              rw [hwipe] at R6
              exact ⟨items.length - (i + 1), by omega, w6, e5, acc5, L5, b2, R6, V5.ext x6 (fun _ z => by cases z) R5.dz, x5.trans (x6.mono lv), n5, hlt, hl5, rfl, hc5⟩
            cases et : tt e1 with
            | none => rw [et] at hc; cases hc
            | some ot =>
              rw [et] at hc
              refine ⟨w3, e1, ot, rfl, R3, et, ?_⟩
              cases ot with
              | ex x e2 => cases hc
              | ok b e2 =>
                intro w4 R4 x4
                have Va4 := Va3.ext x4 (fun _ z => by cases z) R3.dz
                have x14 := x13.trans (x4.mono lt)
                cases b with
                | false =>
                  rw [if_neg Bool.false_ne_true]
                  exact again w4 e2 acc La R4 Va4 x14 nw (by omega) hc
                | true =>
                  rw [if_pos rfl]
                  dsimp only at hc
                  cases ek : ck e2 with
                  | none => rw [ek] at hc; cases hc
                  | some ok' =>
                    rw [ek] at hc
                    refine ⟨w4, e2, ok', rfl, R4, ek, ?_⟩
                    cases ok' with
                    | ex x e3 => cases hc
                    | ok kd e2' =>
                    intro w4' vk Lk R4' x4' Vk nk
                    have Va4 := Va4.ext x4' (fun _ z => by cases z) R4.dz
                    have x14 := x14.trans (x4'.mono lkk)
                    dsimp only at hc
                    cases ee : ce e2' with
                    | none => rw [ee] at hc; cases hc
                    | some oe =>
                    rw [ee] at hc
                    refine ⟨w4', e2', oe, rfl, R4', ee, ?_⟩
                    cases oe with
                    | ex x e3 => cases hc
                    | ok y e3 =>
                      intro w5 v5 L5 R5 x5 V5 n5
                      have Va5 := Va4.ext x5 (fun _ z => by cases z) R4'.dz
                      dsimp only at hc
                      cases ekey : keyOf kd with
                      | none => rw [ekey] at hc; cases hc
                      | some key =>
                      rw [ekey] at hc
                      dsimp only at hc
                      split at hc
                      · cases hc
                      rename_i hfr
                      have hkv : vk = kV key := keyOf_fz ekey Vk.1.2
                      obtain ⟨⟨q0, ys, L', e0, g1, g2, g3, g4⟩, g5, g6⟩ := Va5
                      cases e0
                      cases g3
                      obtain ⟨V51, V52, V53⟩ := V5
                      have hqL : q ∉ La := (List.nodup_cons.mp g5).1
                      have hz5 := (g6 q List.mem_cons_self)
                      have hq5 : w4'.H q ≠ none := fun z => Va4.1.here q List.mem_cons_self (unl_none.mpr z)
                      have hqL5 : q ∉ L5 := fun z => by
                        obtain ⟨j, _, hj⟩ := n5 q z hq5
                        exact (Va4.2.2 q List.mem_cons_self).2.1 j hj
                      have hsz2 : acc.length < sizeLine := by omega
                      have hlock : w5.H q = some (.dK ys) := by
                        have h2 := (g6 q List.mem_cons_self).2.2
                        rw [← h2]; exact g1
                      refine ⟨ys, key, hkv, hlock, by rw [g4.length]; exact hsz2, ?_⟩
                      have R6 := R5.mut (q := q) (o := .dK (putK ys key v5)) hz5.1 hz5.2.1 rfl (fun _ z => by cases z)
                      have hdis : ∀ a ∈ La, a ∉ L5 := fun a h1 h2 => by
                        have hn : w4'.H a ≠ none := fun z => Va4.1.here a (List.mem_cons_of_mem _ h1) (unl_none.mpr z)
                        obtain ⟨j, _, hj⟩ := n5 a h2 hn
                        exact (Va4.2.2 a (List.mem_cons_of_mem _ h1)).2.1 j hj
                      refine again ⟨w5.Z, upd w5.H q (.dK (putK ys key v5)), w5.Ls⟩ e3 (putD acc key y) (La ++ L5) R6 ⟨⟨q, putK ys key v5, La ++ L5, rfl, unl_of upd_same rfl, by have := putD_len acc key y; omega, rfl, ?_⟩, ?_, fun a ha => ?_⟩ ?_ (fun a ha hn => ?_) (by have := putD_len acc key y; omega) hc
                      · have fr : ∀ a, a ≠ q → unl (upd w5.H q (.dK (putK ys key v5))) a = unl w5.H a := fun a ha => unl_eq (upd_ne ha)
                        refine al_put (by
                          by_cases hm0 : m = 0
                          · exact .inl hm0
                          · refine .inr ?_
                            cases hany : (acc.any fun p => decide (p.1 = key)) with
                            | false => rfl
                            | true => exact absurd ⟨hm0, hany⟩ hfr) (g4.imp fun d v l _ r hl => ⟨r.1, r.2.frame (fun _ _ z => z) fun a ha => fr a fun z => hqL (by rw [← z]; exact hl a ha)⟩) ?_
                        exact V51.frame (fun _ _ z => z) fun a ha => fr a fun z => hqL5 (by rw [← z]; exact ha)
                      · refine List.nodup_cons.mpr ⟨fun z => (List.mem_append.mp z).elim hqL hqL5, List.nodup_append.mpr ⟨(List.nodup_cons.mp g5).2, V52, fun a ha b hb e => hdis a ha (by rw [e]; exact hb)⟩⟩
                      · show w5.Z a = none ∧ (∀ j, a ∉ w5.Ls j) ∧ unl (upd w5.H q (.dK (putK ys key v5))) a = upd w5.H q (.dK (putK ys key v5)) a
                        by_cases hz : a = q
                        · subst hz
                          exact ⟨hz5.1, hz5.2.1, by rw [unl_of (H := upd w5.H a (.dK (putK ys key v5))) upd_same rfl]; exact upd_same.symm⟩
                        · rw [unl_eq (upd_ne hz), upd_ne hz]
                          rcases List.mem_append.mp ((List.mem_cons.mp ha).resolve_left hz) with ha | ha
                          · exact g6 a (List.mem_cons_of_mem _ ha)
                          · exact V53 a ha
                      · have x15 := x14.trans (x5.mono le)
                        have hq1 : w1.H q = none := hq
                        have nq : ∀ a, w1.H a ≠ none → a ≠ q := fun a h z => h (by rw [z]; exact hq1)
                        refine ⟨x15.zz, fun a o e n => ?_, x15.zn, x15.ll, x15.ln, fun a h => ?_⟩
                        · show upd w5.H q _ a = some o ∨ (_ ∧ _ ∧ ∃ od, upd w5.H q _ a = some (.frz od o))
                          rw [upd_ne (nq a (by rw [e]; simp))]
                          exact x15.hh a o e n
                        · show upd w5.H q _ a ≠ none
                          rw [upd_ne (nq a h)]
                          exact x15.al a h
                      · rcases List.mem_append.mp ha with ha | ha
                        · exact nw a ha hn
                        · obtain ⟨j, hj, hj2⟩ := n5 a ha (x14.al a hn)
                          have hj := hj.resolve_right (by simp)
                          obtain ⟨i2, h2, h3⟩ := x14.back hj2 hn
                          rcases h3 with rfl | h3
                          · exact ⟨i2, le _ hj, h2⟩
                          · exact ⟨i2, h3, h2⟩
        · have e : i = items.length := by omega
          subst e
          rw [List.drop_length] at hc
          cases hc
          refine .inl ⟨stop, F wi (.ref q) (q :: La) (Ri.unwipe hp) ((x1.mono l1).trans (xi.mono l2)) Va fun a ha hn => ?_⟩
          rcases List.mem_cons.mp ha with rfl | ha
          · exact absurd hq (x1.al a hn)
          · obtain ⟨j, hj, h2⟩ := nw a ha (x1.al a hn)
            obtain ⟨i2, h3, h4⟩ := x1.back h2 hn
            rcases h4 with rfl | h4
            · exact ⟨i2, .inl (l2 _ hj), h3⟩
            · exact ⟨i2, .inl (l1 _ h4), h3⟩
      · cases ho1
    · cases ho1
  · exact ⟨w, env, _, hH, Rl, he, fun w' p R' x' P => F w' p R' (x'.mono l1) P⟩
theorem se_dc {t : Tg} {g : TG} {tt : DB} (m : Nat) (T : TgS G.K t g) (hc : X.calm = true) (hN : X.N.Nodup) (hi : PI X tg iter (tI G ms lk bs Ei XE cs)) (ok : BlkOk X.N X.env.scope scope own)
    (hg : ∀ (s : Shared) (H : Hp) (C : Addr) (cl : List (Str × Addr)) (fp : List Addr), PG (X.blk s H scope (compEnvC scope cl C X.env) fp) tg g) (ht : ∀ (s : Shared) (H : Hp) (C : Addr) (cl : List (Str × Addr)) (fp : List Addr), PTs (X.blk s H scope (compEnvC scope cl C X.env) fp) ifs (tT G ms lk Et E0 tt))
    (hk : ∀ (s : Shared) (H : Hp) (C : Addr) (cl : List (Str × Addr)) (fp : List Addr), PE (X.blk s H scope (compEnvC scope cl C X.env) fp) kx (tD G ms lk (.own 0) Ek E0 ck))
    (he : ∀ (s : Shared) (H : Hp) (C : Addr) (cl : List (Str × Addr)) (fp : List Addr), PE (X.blk s H scope (compEnvC scope cl C X.env) fp) vx (tD G ms lk (.own m) Ee E0 ce))
    (hs : ∀ i ∈ t.sl, i < ms.length ∧ ms.set i 0 = ms ∧ i ∉ G.pins := by try dsimp only; decide +kernel) (hv : ∀ i ∈ t.sl, i ∈ own.map (·.2) := by decide) (hp : ∀ i ∈ own.map (·.2), i ∉ G.pins := by try dsimp only; decide +kernel) (hd : ∀ j ∈ bs, j ∉ own.map (·.2) ++ (Et ++ (Ek ++ Ee)) := by decide)
    (hf : ∀ x, foldedSetIterable iter X.env x = pure x := by intro _; rfl) :
    PE X (.DictComp kx vx [⟨tg, iter, ifs, 0⟩] scope pos) (tD G ms lk (.own (m + 1)) (Ei ++ (own.map (·.2) ++ (Et ++ (Ek ++ Ee)))) XE (dDc m cs t tt ck ce (own.map (·.2)))) :=
  PE.weak (pe_dc hc hN hi ok hg ht hk he hf) fun _ _ _ h => tDc_of T hs hv hp hd h
end
end PD
namespace PD
open PySem PySem.Spec PyProof.Rows L2 GF
/-! ### {} , dict(..), d.get -/
section
variable {X : Cx} {K : PySem.W.Frag} {G : Gc} {ms lk ms' : List Nat} {k ka kb kc : Kd} {bs E E1 Ea Eb Ec : List Nat} {R : Rt} {XE : XK} {pos p apos cpos tpos : Pos} {a b b2 e tg iter : Expr} {es elts : List Expr} {ca cb cc : DE} {cs : DA} {c : DS} {body : List Stmt} {Dn : Ends} {kk : Nat}
theorem se_dnewK (m : Nat) : PE X (.Dict [] [] pos) (tD G ms lk (.own (m + 1)) [] XE (dC (.dct []))) := PE.weak pe_dnewK fun σ H Q ⟨w, env, o, hH, R, ho, F⟩ => by
  cases ho
  rw [← hH]
  exact fun q hq => fin_own F R .refl .nil List.nodup_nil (fun _ z => by cases z) hq rfl (fun _ z => by cases z) (fun _ z => by cases z) fun h' e1 _ => ⟨q, [], [], rfl, e1, Nat.zero_le _, rfl, rfl, rfl⟩
theorem se_dnewT (m : Nat) : PE X (.Dict [] [] pos) (tD G ms lk (.own (m + 1)) [] XE (dC (.dtt []))) := PE.weak pe_dnewT fun σ H Q ⟨w, env, o, hH, R, ho, F⟩ => by
  cases ho
  rw [← hH]
  exact fun q hq => fin_own F R .refl .nil List.nodup_nil (fun _ z => by cases z) hq rfl (fun _ z => by cases z) (fun _ z => by cases z) fun h' e1 _ => ⟨q, [], [], rfl, e1, Nat.zero_le _, rfl, rfl, rfl⟩
def pairD : D → Option (Key × D)
  | .tup [c, d] => (keyOf c).map fun k => (k, d)
  | _ => none
def mergeD (acc more : List (Key × D)) : List (Key × D) := more.foldl (fun acc kv => putD acc kv.1 kv.2) acc
theorem pairD_some {d : D} {q : Key × D} (h : pairD d = some q) : ∃ c, d = .tup [c, q.2] ∧ keyOf c = some q.1 := by
  unfold pairD at h
  split at h
  · obtain ⟨k, hk, e⟩ := Option.map_eq_some_iff.mp h
    cases e
    exact ⟨_, rfl, hk⟩
  · cases h
theorem mapM_cons {α β : Type} {f : α → Option β} {x : α} {xs : List α} {r : List β} (h : (x :: xs).mapM f = some r) : ∃ y ys, f x = some y ∧ xs.mapM f = some ys ∧ r = y :: ys := by
  rw [List.mapM_cons] at h
  cases e1 : f x with
  | none => rw [e1] at h; cases h
  | some y =>
    rw [e1] at h
    cases e2 : xs.mapM f with
    | none => rw [e2] at h; cases h
    | some ys => rw [e2] at h; cases h; exact ⟨y, ys, rfl, rfl, rfl⟩
theorem pairs_of {Z : Hp} : ∀ {ds : List D} {xs : List V} {ks : List (Key × D)}, FzA G.K G.CA Z ds xs → ds.mapM pairD = some ks → ∃ (ps : List Addr) (kvs : List (Key × V)), xs = ps.map V.ref ∧ Paired (fun p kv => Z p = some (.tup [kV kv.1, kv.2])) ps kvs ∧ FzE G.K G.CA Z ks kvs
  | [], _, _, h, e => by
    cases (show _ = _ from h)
    rw [List.mapM_nil] at e
    cases e
    exact ⟨[], [], rfl, .nil, rfl⟩
  | d :: ds, _, _, h, e => by
    obtain ⟨v, r, rfl, h1, h2⟩ := h
    obtain ⟨q, ks, e1, e2, rfl⟩ := mapM_cons e
    obtain ⟨ps, kvs, rfl, h3, h4⟩ := pairs_of h2 e2
    obtain ⟨c, rfl, hc⟩ := pairD_some e1
    obtain ⟨t, ys, rfl, g1, _, g2⟩ := h1
    obtain ⟨y1, r1, rfl, g3, g4⟩ := g2
    obtain ⟨y2, r2, rfl, g5, g6⟩ := g4
    cases (show _ = _ from g6)
    cases keyOf_fz hc g3
    exact ⟨t :: ps, (q.1, y2) :: kvs, rfl, .cons g1 h3, y2, kvs, rfl, g5, h4⟩
theorem FzE.merge {Z : Hp} : ∀ {ks : List (Key × D)} {kvs : List (Key × V)} {ac : List (Key × D)} {av : List (Key × V)}, FzE G.K G.CA Z ks kvs → FzE G.K G.CA Z ac av → FzE G.K G.CA Z (mergeD ac ks) (mergeK av kvs)
  | [], _, _, _, h, h' => by cases (show _ = _ from h); exact h'
  | (k, d) :: ks, _, _, _, h, h' => by
    obtain ⟨v, r, rfl, h1, h2⟩ := h
    show FzE G.K G.CA Z (mergeD (putD _ k d) ks) (mergeK (putK _ k v) r)
    exact FzE.merge h2 (h'.put k h1)
theorem mergeD_len : ∀ (ks ac : List (Key × D)), (mergeD ac ks).length ≤ ac.length + ks.length
  | [], ac => Nat.le_refl _
  | (k, d) :: ks, ac => by
    have h := mergeD_len ks (putD ac k d)
    have h2 := putD_len ac k d
    show (mergeD (putD ac k d) ks).length ≤ _
    rw [List.length_cons]
    omega
theorem mapM_len {α β : Type} {f : α → Option β} : ∀ {xs : List α} {r : List β}, xs.mapM f = some r → r.length = xs.length
  | [], _, h => by rw [List.mapM_nil] at h; cases h; rfl
  | x :: xs, _, h => by
    obtain ⟨y, ys, _, e, rfl⟩ := mapM_cons h
    rw [List.length_cons, List.length_cons, mapM_len e]
theorem fresh_dct {w w1 : Wd} {env1 : Ev} {σ : L2.St} {Q : VK} {ks : List (Key × D)} {xs : List (Key × V)} (F : Fin G ms lk (.own 1) E XE w σ Q (.ok (.dct ks) env1)) (R1 : Rel G ms lk w1 env1 σ) (x1 : Ext E w w1) (h : FzE G.K G.CA w1.Z ks xs) (hl : ks.length ≤ sizeLine) : ∀ q, w1.H q = none → Q (.ref q) (upd w1.H q (.dK xs)) := fun q hq =>
  fin_own (m := 0) (L := []) F R1 x1 .nil List.nodup_nil (fun _ z => by cases z) hq rfl (fun _ z => by cases z) (fun _ z => by cases z) fun h' e1 e2 => ⟨q, xs, [], rfl, e1, hl, rfl, k0Al h⟩
def gDictA : List D → Option D
  | [.lst ds] => (ds.mapM pairD).map fun ks => .dct (mergeD [] ks)
  | [.dct ks] => some (.dct ks)
  | _ => none
theorem paired_imp {α β : Type} {R S : α → β → Prop} : ∀ {xs : List α} {ys : List β}, Paired R xs ys → (∀ x y, R x y → S x y) → Paired S xs ys
  | _, _, .nil, _ => .nil
  | _, _, .cons h t, f => .cons (f _ _ h) (paired_imp t f)
theorem se_dictA (hg : Gl X "dict") (hm : X.mg "dict" = none) (ha : PA X [a] (tA G ms lk [k] E XE cs)) (hcalm : X.calm = true := by rfl) (ok : k.okc = true := by rfl) (hc : k.chi = .own 0 := by rfl) (hb : bootBuiltins "dict" = some (.type "dict") := by decide +kernel) (he : starEach [a] X.env = (false, eval a X.env) :: starEach [] X.env := by rfl) (hpl : (backTo pos (starEach [] X.env)).any (·.1) = false := by rfl) (hK : X.K = G.K := by rfl) :
    PE X (.Call (.Name "dict" p) [a] [] pos) (tD G ms lk (.own 1) E XE (dN gDictA cs)) := PE.weak (PE.or (pe_callTy (call_dictP hcalm) hg hm hb ha (by decide) (by decide) he hpl) (pe_callTy call_dictD hg hm hb ha (by decide) (by decide) he hpl)) fun σ H Q ⟨w, env, o, hH, R, ho, F⟩ => by
  rw [← hH]
  rcases bnd_some ho with ⟨ds0, env0, he0, ho0⟩ | ⟨x, e0, he0, rfl⟩
  · obtain ⟨z0, hz0, rfl⟩ := lf_some ho0
    unfold gDictA at hz0
    split at hz0
    · left
      rename_i ds
      obtain ⟨ks, hks, rfl⟩ := Option.map_eq_some_iff.mp hz0
      refine ⟨w, env, _, rfl, R, he0, fun w1 vs L R1 x1 V1 n1 => ?_⟩
      obtain ⟨d', r, v, vs', L1, L2, h0, rfl, rfl, h1, h2, _⟩ := V1
      cases h0
      obtain ⟨_, rfl, rfl⟩ := h2
      obtain ⟨a0, xs, rfl, g1, g2, g3⟩ := h1.kids ok hc R1.sub
      obtain ⟨ps, kvs, rfl, g4, g5⟩ := pairs_of g3 hks
      refine ⟨a0, ps, kvs, rfl, .inl (.inl g1), paired_imp g4 fun p kv h => .inl (.inl (unl_tup (R1.sub _ _ h))), fresh_dct F R1 x1 (g5.merge (ac := []) rfl) ?_⟩
      have h3 := mergeD_len ks []
      have h4 := mapM_len hks
      rw [List.length_nil] at h3
      omega
    · right
      rename_i ks
      cases hz0
      refine ⟨w, env, _, rfl, R, he0, fun w1 vs L R1 x1 V1 n1 => ?_⟩
      obtain ⟨d', r, v, vs', L1, L2, h0, rfl, rfl, h1, h2, _⟩ := V1
      cases h0
      obtain ⟨_, rfl, rfl⟩ := h2
      obtain ⟨a0, xs, rfl, g1, g2, g3, g4⟩ := h1.dct ok R1.sub
      refine ⟨a0, xs, rfl, unl_dK g1, fresh_dct F R1 x1 ?_ g2⟩
      have all : ∀ (ks : List (Key × D)) (xs : List (Key × V)), xs.map (·.1) = ks.map (·.1) → (∀ (j : Nat) (c : Key) d, ks[j]? = some (c, d) → ∃ u, xs[j]? = some (c, u) ∧ Fz G.K G.CA w1.Z d u) → FzE G.K G.CA w1.Z ks xs := by
        intro ks
        induction ks with
        | nil => intro xs h _; exact List.map_eq_nil_iff.mp h
        | cons q ks ih =>
          intro xs h h'
          cases xs with
          | nil => cases h
          | cons x xs =>
            obtain ⟨u, e, f⟩ := h' 0 q.1 q.2 rfl
            cases e
            rw [List.map_cons, List.map_cons] at h
            injection h with _ h
            exact ⟨u, xs, rfl, f, ih xs h fun j c d e => h' (j + 1) c d e⟩
      exact all ks xs g3 fun j c d e => let ⟨u, e1, q⟩ := g4 j c d e; ⟨u, e1, q.fz hc⟩
    · cases hz0
  · exact .inl ⟨w, env, _, rfl, R, he0, fun w' p R' x' P => F w' p R' x' P⟩
/-- .. whose parts are owned too -/
def gDictU : List D → Option D
  | [.lst ds] => match ds.mapM pairD with
    | some ks => if (ks.map (·.1)).Nodup then some (.dct ks) else none
    | none => none
  | _ => none
theorem pairsU {Z h : Hp} {m : Nat} : ∀ {ds : List D} {xs : List V} {ks : List (Key × D)} {L : List Addr}, Al3 (Ow G.K G.CA Z h (m + 2)) ds xs L → ds.mapM pairD = some ks → ∃ (ps : List Addr) (kvs : List (Key × V)), xs = ps.map V.ref ∧ Paired (fun p kv => Z p = some (.tup [kV kv.1, kv.2])) ps kvs ∧ Al3 (KR (Ow G.K G.CA Z h (m + 1))) ks kvs L
  | [], _, _, _, h, e => by
    obtain ⟨rfl, rfl⟩ := h
    rw [List.mapM_nil] at e
    cases e
    exact ⟨[], [], rfl, .nil, rfl, rfl⟩
  | d :: ds, _, _, _, h, e => by
    obtain ⟨v, r, L1, L2, rfl, rfl, h1, h2⟩ := h
    obtain ⟨q, ks, e1, e2, rfl⟩ := mapM_cons e
    obtain ⟨ps, kvs, rfl, h3, h4⟩ := pairsU h2 e2
    obtain ⟨c, rfl, hc⟩ := pairD_some e1
    obtain ⟨t, ys, rfl, g1, _, g2⟩ := h1
    obtain ⟨y1, r1, l1, l2, rfl, rfl, g3, g4⟩ := g2
    obtain ⟨y2, r2, l3, l4, rfl, rfl, g5, g6⟩ := g4
    obtain ⟨rfl, rfl⟩ := g6
    have : l1 = [] ∧ y1 = kV q.1 := by
      cases c <;> simp only [keyOf] at hc <;> first | (cases hc; done) | (injection hc with hc; rw [← hc]; exact ⟨g3.1, g3.2⟩)
    obtain ⟨rfl, rfl⟩ := this
    exact ⟨t :: ps, (q.1, y2) :: kvs, rfl, .cons g1 h3, (q.1, y2), kvs, l3, L2, rfl, by simp, ⟨rfl, g5⟩, h4⟩
theorem mergeK_nodup : ∀ {kvs ac : List (Key × V)}, ((ac ++ kvs).map (·.1)).Nodup → mergeK ac kvs = ac ++ kvs
  | [], ac, _ => by rw [List.append_nil]; rfl
  | kv :: kvs, ac, h => by
    have hn : (ac.any fun q => decide (q.1 = kv.1)) = false := by
      cases e : ac.any fun q => decide (q.1 = kv.1) with
      | false => rfl
      | true =>
        obtain ⟨q, hq, e2⟩ := List.any_eq_true.mp e
        rw [List.map_append, List.nodup_append] at h
        exact absurd (of_decide_eq_true e2) (h.2.2 q.1 (List.mem_map_of_mem hq) kv.1 (by simp))
    show mergeK (putK ac kv.1 kv.2) kvs = _
    have : putK ac kv.1 kv.2 = ac ++ [kv] := by unfold putK; rw [hn]; rfl
    rw [this, mergeK_nodup (by rw [List.append_assoc]; exact h), List.append_assoc]
    rfl
theorem se_dictU (m : Nat) (hg : Gl X "dict") (hm : X.mg "dict" = none) (ha : PA X [a] (tA G ms lk [.own (m + 3)] E XE cs)) (hcalm : X.calm = true := by rfl) (hb : bootBuiltins "dict" = some (.type "dict") := by decide +kernel) (he : starEach [a] X.env = (false, eval a X.env) :: starEach [] X.env := by rfl) (hpl : (backTo pos (starEach [] X.env)).any (·.1) = false := by rfl) (hK : X.K = G.K := by rfl) :
    PE X (.Call (.Name "dict" p) [a] [] pos) (tD G ms lk (.own (m + 2)) E XE (dN gDictU cs)) := PE.weak (pe_callTy (call_dictP hcalm) hg hm hb ha (by decide) (by decide) he hpl) fun σ H Q ⟨w, env, o, hH, R, ho, F⟩ => by
  rw [← hH]
  refine tA.bind R ho F (fun _ z => z) fun w1 env1 ds0 vs L R1 x1 V1 n1 ho1 F1 => ?_
  obtain ⟨z0, hz0, rfl⟩ := lf_some ho1
  unfold gDictU at hz0
  split at hz0
  · rename_i ds
    split at hz0
    · rename_i ks hks
      split at hz0
      · rename_i hnd
        cases hz0
        obtain ⟨d', r, v, vs', L1, L2, h0, rfl, rfl, h1, h2, _⟩ := V1
        cases h0
        obtain ⟨_, rfl, rfl⟩ := h2
        have here := h1.1.here
        obtain ⟨⟨a0, xs, L', rfl, g1, g2, rfl, g3⟩, g4, g5⟩ := h1
        obtain ⟨ps, kvs, rfl, g6, g7⟩ := pairsU g3 hks
        refine ⟨a0, ps, kvs, rfl, .inl (.inl (unl_lst g1)), paired_imp g6 fun p kv h => .inl (.inl (unl_tup (R1.sub _ _ h))), fun q hq => ?_⟩
        have hmk : mergeK [] kvs = kvs := mergeK_nodup (by rw [List.nil_append, g7.keys]; exact hnd)
        rw [hmk]
        have hl : ∀ a ∈ L', w1.H a ≠ none := fun a ha z => here a (List.mem_cons_of_mem _ ha) (unl_none.mpr z)
        refine fin_own F R1 x1 (fun a ha hn => n1 a (by simp [ha]) hn) (List.nodup_cons.mp g4).2 (fun a ha => g5 a (List.mem_cons_of_mem _ ha)) hq rfl (fun _ z => by cases z) hl fun h' e1 e2 => ⟨q, kvs, L', rfl, e1, by have := mapM_len hks; omega, rfl, g7.imp fun d v l _ r hl' => ⟨r.1, r.2.frame (fun _ _ z => z) fun a ha => e2 a fun z => by subst z; exact hl a (hl' a ha) hq⟩⟩
      · cases hz0
    · cases hz0
  · cases hz0
/-! d.get -/
def gGet (d c x : D) : Option D := match d with
  | .dct ks => (keyOf c).map fun k => (valD ks k).getD x
  | .dtt ks => (keysOf c).map fun k => (valD ks k).getD x
  | _ => none
def dGet2 (a b c : DE) : DE := bnd a fun d => bnd b fun k => bnd c fun x => lf (gGet d k x)
def dGet1 (a b : DE) : DE := bnd a fun d => bnd b fun k => lf (gGet d k .non)
theorem get_of {w : Wd} {env : Ev} {σ : L2.St} {d c x z : D} {v y u : V} {L : List Addr} (R1 : Rel G ms lk w env σ) (V1 : ValR G w d v L ka) (ok : ka.okc = true) (hc : ka.chi = .own 0) (hy : Fz G.K G.CA (unl w.H) c y) (hx : Fz G.K G.CA w.Z x u) (hz : gGet d c x = some z) :
    ∃ a0, v = .ref a0 ∧ ∃ o, DGet w.H a0 y o ∧ Fz G.K G.CA w.Z z (o.getD u) := by
  unfold gGet at hz
  split at hz
  · rename_i ks
    obtain ⟨k0, hk, rfl⟩ := Option.map_eq_some_iff.mp hz
    obtain ⟨a0, xs, rfl, g1, g2, g3, g4⟩ := V1.dct ok R1.sub
    refine ⟨a0, rfl, valV xs k0, .inl ⟨xs, k0, unl_dK g1, keyOf_fz hk hy, rfl⟩, ?_⟩
    cases e : valD ks k0 with
    | none =>
      have : valV xs k0 = none := valD_none g3 e
      rw [this]; exact hx
    | some d0 =>
      obtain ⟨j, h4, h5⟩ := valD_at e
      obtain ⟨u0, h6, h7⟩ := g4 j k0 d0 h4
      have : valV xs k0 = some u0 := h5 V xs u0 g3 h6
      rw [this]; exact h7.fz hc
  · rename_i ks
    obtain ⟨k0, hk, rfl⟩ := Option.map_eq_some_iff.mp hz
    obtain ⟨a0, xs, rfl, g1, g2, g3, g4⟩ := V1.dtt ok R1.sub
    obtain ⟨b0, rfl, hb⟩ := keysOf_fz hk hy
    refine ⟨a0, rfl, valV xs k0, .inr ⟨xs, k0, b0, unl_dT g1, rfl, unl_tup hb, rfl⟩, ?_⟩
    cases e : valD ks k0 with
    | none =>
      have : valV xs k0 = none := valD_none g3 e
      rw [this]; exact hx
    | some d0 =>
      obtain ⟨j, h4, h5⟩ := valD_at e
      obtain ⟨u0, h6, h7⟩ := g4 j k0 d0 h4
      have : valV xs k0 = some u0 := h5 V xs u0 g3 h6
      rw [this]; exact h7.fz hc
  · cases hz
theorem isD_of {w : Wd} {env : Ev} {σ : L2.St} {d : D} {v : V} {L : List Addr} (R1 : Rel G ms lk w env σ) (V1 : ValR G w d v L ka) (ok : ka.okc = true) (h : isDic d = true) : ∃ a0, v = .ref a0 ∧ IsD w.H a0 := by
  cases d with
  | dct ks => obtain ⟨a0, xs, rfl, g1, _⟩ := V1.dct ok R1.sub; exact ⟨a0, rfl, .inl ⟨xs, unl_dK g1⟩⟩
  | dtt ks => obtain ⟨a0, xs, rfl, g1, _⟩ := V1.dtt ok R1.sub; exact ⟨a0, rfl, .inr ⟨xs, unl_dT g1⟩⟩
  | _ => cases h
/-- its receiver is a dict -/
def dDic (a : DE) : DE := bnd a fun d => lf (if isDic d = true then some d else none)
theorem se_get2 (hu : X.A.units + 1 < cLine) (ha : PE X a (tD G ms lk ka Ea XE ca)) (hb : PE X b (tD G ms lk (.own 0) Eb XE cb)) (hc : PE X b2 (tD G ms lk (.own 0) Ec XE cc)) (ok : ka.okc = true := by rfl) (hk : ka.chi = .own 0 := by rfl) (hd : ∀ j ∈ ka.bs, j ∉ Eb ++ Ec := by decide)
    (m : M2 X a "get" apos b b2 cpos := by exact ⟨by rfl, by rfl, by rfl, by rfl⟩) : PE X (.Call (.Attribute a "get" apos) [b, b2] [] cpos) (tD G ms lk (.own 0) (Ea ++ (Eb ++ Ec)) XE (dGet2 (dDic ca) cb cc)) := PE.weak (pe_dget2 hu ha hb hc m) fun σ H Q ⟨w, env, o, hH, R, ho, F⟩ => by
  have e1 : ∀ j ∈ Ea, j ∈ Ea ++ (Eb ++ Ec) := fun j hj => List.mem_append_left _ hj
  have e2 : ∀ j ∈ Eb, j ∈ Ea ++ (Eb ++ Ec) := fun j hj => List.mem_append_right _ (List.mem_append_left _ hj)
  have e3 : ∀ j ∈ Ec, j ∈ Ea ++ (Eb ++ Ec) := fun j hj => List.mem_append_right _ (List.mem_append_right _ hj)
  rw [← hH]
  have ho' : bnd ca (fun d => if isDic d = true then bnd cb fun k => bnd cc fun x => lf (gGet d k x) else fun _ => none) env = some o := by
    unfold dGet2 dDic bnd at ho
    unfold bnd
    cases e : ca env with
    | none => rw [e] at ho; cases ho
    | some o1 =>
      rw [e] at ho
      cases o1 with
      | ex x e1 => exact ho
      | ok d e1 =>
        dsimp only at ho ⊢
        by_cases hh : isDic d = true
        · rw [if_pos hh] at ho ⊢; exact ho
        · rw [if_neg hh] at ho; cases ho
  refine tD.bind R ho' F e1 fun w1 env1 d v L R1 x1 V1 n1 ho1 F1 => ?_
  split at ho1
  · rename_i hdic
    obtain ⟨a0, rfl, hD⟩ := isD_of R1 V1 ok hdic
    refine ⟨a0, rfl, hD, ?_⟩
    refine tD.bind R1 ho1 F1 e2 fun w2 env2 d2 v2 L2 R2 x2 V2' n2 ho2 F2 => ?_
    refine tD.bind R2 ho2 F2 e3 fun w3 env3 d3 v3 L3 R3 x3 V3 n3 ho3 F3 => ?_
    obtain ⟨z, hz, rfl⟩ := lf_some ho3
    have V13 := (V1.ext x2 (fun j hj z => hd j hj (List.mem_append_left _ z)) R1.dz).ext x3 (fun j hj z => hd j hj (List.mem_append_right _ z)) R2.dz
    have V23 := V2'.ext x3 (fun _ z => by cases z) R2.dz
    obtain ⟨a1, e, o1, h1, h2⟩ := get_of R3 V13 ok hk (V23.rd R3.sub) V3.1.2 hz
    cases e
    exact ⟨o1, h1, F3 w3 _ [] R3 .refl ⟨⟨rfl, h2⟩, List.nodup_nil, fun _ z => by cases z⟩ .nil⟩
  · cases ho1
theorem se_get1 (hu : X.A.units + 1 < cLine) (ha : PE X a (tD G ms lk ka Ea XE ca)) (hb : PE X b (tD G ms lk (.own 0) Eb XE cb)) (ok : ka.okc = true := by rfl) (hk : ka.chi = .own 0 := by rfl) (hd : ∀ j ∈ ka.bs, j ∉ Eb := by decide)
    (m : M1 X a "get" apos b cpos := by exact ⟨by rfl, by rfl, by rfl, by rfl⟩) : PE X (.Call (.Attribute a "get" apos) [b] [] cpos) (tD G ms lk (.own 0) (Ea ++ Eb) XE (dGet1 (dDic ca) cb)) := PE.weak (pe_dget1 hu ha hb m) fun σ H Q ⟨w, env, o, hH, R, ho, F⟩ => by
  have e1 : ∀ j ∈ Ea, j ∈ Ea ++ Eb := fun j hj => List.mem_append_left _ hj
  have e2 : ∀ j ∈ Eb, j ∈ Ea ++ Eb := fun j hj => List.mem_append_right _ hj
  rw [← hH]
  have ho' : bnd ca (fun d => if isDic d = true then bnd cb fun k => lf (gGet d k .non) else fun _ => none) env = some o := by
    unfold dGet1 dDic bnd at ho
    unfold bnd
    cases e : ca env with
    | none => rw [e] at ho; cases ho
    | some o1 =>
      rw [e] at ho
      cases o1 with
      | ex x e1 => exact ho
      | ok d e1 =>
        dsimp only at ho ⊢
        by_cases hh : isDic d = true
        · rw [if_pos hh] at ho ⊢; exact ho
        · rw [if_neg hh] at ho; cases ho
  refine tD.bind R ho' F e1 fun w1 env1 d v L R1 x1 V1 n1 ho1 F1 => ?_
  split at ho1
  · rename_i hdic
    obtain ⟨a0, rfl, hD⟩ := isD_of R1 V1 ok hdic
    refine ⟨a0, rfl, hD, ?_⟩
    refine tD.bind R1 ho1 F1 e2 fun w2 env2 d2 v2 L2 R2 x2 V2' n2 ho2 F2 => ?_
    obtain ⟨z, hz, rfl⟩ := lf_some ho2
    have V13 := V1.ext x2 hd R1.dz
    obtain ⟨a1, e, o1, h1, h2⟩ := get_of (x := .non) (u := .non) R2 V13 ok hk (V2'.rd R2.sub) rfl hz
    cases e
    exact ⟨o1, h1, F2 w2 _ [] R2 .refl ⟨⟨rfl, h2⟩, List.nodup_nil, fun _ z => by cases z⟩ .nil⟩
  · cases ho1
end
end PD
namespace PD
open PySem PySem.Spec PyProof.Rows L2 GF
/-! ### a method of a list that stands in a slot's thing -/
section
variable {X : Cx} {K : PySem.W.Frag} {G : Gc} {ms lk ms' : List Nat} {k ka kb kc : Kd} {ks : List Kd} {bs E E1 Ea Eb Ec : List Nat} {R : Rt} {XE : XK} {pos p apos cpos tpos : Pos} {a b b2 e tg iter : Expr} {es elts : List Expr} {ca cb cc : DE} {cs : DA} {c : DS} {body : List Stmt} {Dn : Ends} {kk : Nat}
def updK {α : Type} : List (Key × α) → Key → α → List (Key × α)
  | [], _, _ => []
  | (k', a) :: r, k, d => if k' = k then (k', d) :: r else (k', a) :: updK r k d
def chD (c j : D) : Option (List D) := match c, j with
  | .dct ks, j => match keyOf j with
    | some k => match valD ks k with
      | some (.lst ds) => some ds
      | _ => none
    | none => none
  | .lst xs, .int i => match atI xs i with
    | some (.lst ds) => some ds
    | _ => none
  | _, _ => none
def stD (c j : D) (ds : List D) : Option D := match c, j with
  | .dct ks, j => (keyOf j).map fun k => .dct (updK ks k (.lst ds))
  | .lst xs, .int i => (ixN xs.length i).map fun n => .lst (xs.set n (.lst ds))
  | _, _ => none
/-- where the inner list stands -/
def Loc (t : Bool) (H : Hp) (a : Addr) (jv : V) (a1 : Addr) : Prop := (t = true ∧ ∃ kvs k, H a = some (.dK kvs) ∧ jv = kV k ∧ valV kvs k = some (.ref a1)) ∨ (t = false ∧ ∃ xs n, H a = some (.lst xs) ∧ jv = .int n ∧ atI xs n = some (.ref a1))
theorem kV_inj' {k k' : Key} (h : kV k = kV k') : k = k' := by
  cases k <;> cases k' <;> first | (cases h; rfl) | cases h
theorem Loc.fn {t t' : Bool} {H H' : Hp} {a a1 a2 : Addr} {jv : V} (h : Loc t H a jv a1) (h' : Loc t' H' a jv a2) (e : H' a = H a) : a1 = a2 := by
  rcases h with ⟨_, kvs, k, h1, h2, h3⟩ | ⟨_, xs, n, h1, h2, h3⟩
  · rcases h' with ⟨_, kvs', k', g1, g2, g3⟩ | ⟨_, xs, n, g1, g2, g3⟩
    · rw [e, h1] at g1
      cases g1
      rw [h2] at g2
      cases kV_inj' g2
      rw [h3] at g3
      cases g3
      rfl
    · rw [e, h1] at g1; cases g1
  · rcases h' with ⟨_, kvs', k', g1, g2, g3⟩ | ⟨_, xs', n', g1, g2, g3⟩
    · rw [e, h1] at g1; cases g1
    · rw [e, h1] at g1
      cases g1
      rw [h2] at g2
      cases g2
      rw [h3] at g3
      cases g3
      rfl
theorem Rel.mutIn {w : Wd} {env : Ev} {σ : L2.St} (Rl : Rel G ms lk w env σ) {i : Nat} {c c2 : D} {v : V} {a1 : Addr} {o' : HO} (hi : env[i]? = some (some c)) (hv : σ[i]? = some (some v)) (ha : a1 ∈ w.Ls i) (po : plain o' = true) (pt : ∀ xs, o' ≠ .tup xs)
    (hnew : Ow G.K G.CA w.Z (unl (upd w.H a1 o')) (md ms i) c2 v (w.Ls i)) : Rel G ms lk ⟨w.Z, upd w.H a1 o', w.Ls⟩ (env.set i (some c2)) σ := by
  have ilt : i < env.length := (List.getElem?_eq_some_iff.mp hi).1
  have na : ∀ {j : Nat} {b : Addr}, j ≠ i → b ∈ w.Ls j → b ≠ a1 := fun {j b} hj hb z => Rl.dj j i hj b hb (by rw [z]; exact ha)
  refine ⟨fun b u e => ?_, by rw [List.length_set]; exact Rl.len, fun j d hd => ?_, fun j hj => ?_, Rl.nd, Rl.dj, Rl.zn, fun j hj b hb => ?_, Rl.pin, fun b xs e => ?_⟩
  · show unl (upd w.H a1 o') b = some u
    rw [unl_upd po, upd_ne fun z => by rw [z, Rl.zn i a1 ha] at e; cases e]
    exact Rl.sub b u e
  · by_cases e : j = i
    · subst e
      rw [List.getElem?_set, if_pos rfl, if_pos ilt] at hd
      cases hd
      exact ⟨v, hv, hnew⟩
    · rw [List.getElem?_set_ne (Ne.symm e)] at hd
      obtain ⟨u, h1, h2⟩ := Rl.slot j d hd
      refine ⟨u, h1, h2.frame (fun _ _ z => z) fun b hb => ?_⟩
      show unl (upd w.H a1 o') b = _
      rw [unl_upd po, upd_ne (na e hb)]
  · by_cases e : j = i
    · subst e
      exact absurd (by rw [List.getElem?_set, if_pos rfl, if_pos ilt]) (hj c2)
    · exact Rl.emp j fun d z => hj d (by rw [List.getElem?_set_ne (Ne.symm e)]; exact z)
  · show unl (upd w.H a1 o') b = upd w.H a1 o' b
    by_cases z : b = a1
    · subst z; rw [unl_of upd_same po, upd_same]
    · rw [unl_upd po, upd_ne z, upd_ne z]; exact Rl.nl j hj b hb
  · have e : upd w.H a1 o' b = some (.tup xs) := e
    by_cases z : b = a1
    · subst z; rw [upd_same] at e; cases e; exact absurd rfl (pt xs)
    · rw [upd_ne z] at e; exact Rl.tz b xs e
theorem Ext.mutIn {w : Wd} {env : Ev} {σ : L2.St} (Rl : Rel G ms lk w env σ) {i : Nat} {a1 : Addr} {o' : HO} (ha : a1 ∈ w.Ls i) (hE : i ∈ E) : Ext E w ⟨w.Z, upd w.H a1 o', w.Ls⟩ := by
  refine ⟨fun _ _ z => z, fun b o e n => .inl ?_, fun _ z1 z2 => absurd z2 z1, fun _ _ => rfl, fun j hj b hb _ => ⟨j, hj, hb⟩, fun b hb => ?_⟩
  · show upd w.H a1 o' b = some o
    rw [upd_ne fun z => n i hE (by rw [z]; exact ha)]; exact e
  · show upd w.H a1 o' b ≠ none
    by_cases z : b = a1
    · subst z; rw [upd_same]; simp
    · rw [upd_ne z]; exact hb
theorem al_upK {Z h h' : Hp} {a1 : Addr} {ds' : List D} {ys' : List V} (he : ∀ a, a ≠ a1 → h' a = h a) (h1 : h' a1 = some (.lst ys')) (hf : FzA G.K G.CA Z ds' ys') (hl : ds'.length ≤ sizeLine) {k : Key} : ∀ {ks : List (Key × D)} {xs : List (Key × V)} {L : List Addr} {ds : List D}, Al3 (KR (Ow G.K G.CA Z h 1)) ks xs L → L.Nodup → valD ks k = some (.lst ds) → valV xs k = some (.ref a1) →
    a1 ∈ L ∧ Al3 (KR (Ow G.K G.CA Z h' 1)) (updK ks k (.lst ds')) xs L
  | [], _, _, _, _, _, hv, _ => by cases hv
  | (k', d) :: ks, _, _, ds, q, nd, hv, hx => by
    obtain ⟨⟨k2, v⟩, r, L1, L2, rfl, rfl, ⟨e0, g1⟩, g2⟩ := q
    cases (show k' = k2 from e0)
    unfold updK
    by_cases z : k' = k
    · subst z
      have hd : d = .lst ds := by simpa [valD] using hv
      have hv2 : v = .ref a1 := by
        rw [← valD_V] at hx
        simpa [valD] using hx
      subst hd hv2
      rw [if_pos rfl]
      obtain ⟨a, ys, L', e1, g3, g4, rfl, g5⟩ := g1
      cases e1
      obtain ⟨g6, rfl⟩ := al0_fz g5
      refine ⟨by simp, (k', .ref a1), r, [a1], L2, rfl, rfl, ⟨rfl, a1, ys', [], rfl, h1, hl, rfl, fz_al0 hf⟩, g2.imp fun d v l _ r hl => ⟨r.1, r.2.frame (fun _ _ z => z) fun a ha => he a fun z => ?_⟩⟩
      subst z
      exact (List.nodup_append.mp nd).2.2 a (by simp) a (hl a ha) rfl
    · rw [if_neg z]
      have hv' : valD ks k = some (.lst ds) := by simpa [valD, z] using hv
      have hx' : valV r k = some (.ref a1) := by
        rw [← valD_V] at hx ⊢
        simpa [valD, z] using hx
      obtain ⟨m, q⟩ := al_upK he h1 hf hl g2 (List.nodup_append.mp nd).2.1 hv' hx'
      refine ⟨List.mem_append_right _ m, (k', v), r, L1, L2, rfl, rfl, ⟨rfl, g1.frame (fun _ _ z => z) fun a ha => he a fun z => ?_⟩, q⟩
      subst z
      exact (List.nodup_append.mp nd).2.2 a ha a m rfl
theorem al_upL {Z h h' : Hp} {a1 : Addr} {ds' : List D} {ys' : List V} (he : ∀ a, a ≠ a1 → h' a = h a) (h1 : h' a1 = some (.lst ys')) (hf : FzA G.K G.CA Z ds' ys') (hl : ds'.length ≤ sizeLine) : ∀ {n : Nat} {ks : List D} {xs : List V} {L : List Addr} {ds : List D}, Al3 (Ow G.K G.CA Z h 1) ks xs L → L.Nodup → ks[n]? = some (.lst ds) → xs[n]? = some (.ref a1) →
    a1 ∈ L ∧ Al3 (Ow G.K G.CA Z h' 1) (ks.set n (.lst ds')) xs L
  | _, [], _, _, _, _, _, hv, _ => by cases hv
  | 0, d :: ks, _, _, ds, q, nd, hv, hx => by
    obtain ⟨v, r, L1, L2, rfl, rfl, g1, g2⟩ := q
    cases hv
    cases hx
    obtain ⟨a, ys, L', e1, g3, g4, rfl, g5⟩ := g1
    cases e1
    obtain ⟨g6, rfl⟩ := al0_fz g5
    refine ⟨by simp, .ref a1, r, [a1], L2, rfl, rfl, ⟨a1, ys', [], rfl, h1, hl, rfl, fz_al0 hf⟩, g2.imp fun d v l _ r hl => r.frame (fun _ _ z => z) fun a ha => he a fun z => ?_⟩
    subst z
    exact (List.nodup_append.mp nd).2.2 a (by simp) a (hl a ha) rfl
  | n + 1, d :: ks, _, _, ds, q, nd, hv, hx => by
    obtain ⟨v, r, L1, L2, rfl, rfl, g1, g2⟩ := q
    obtain ⟨m, q⟩ := al_upL (n := n) he h1 hf hl g2 (List.nodup_append.mp nd).2.1 hv hx
    refine ⟨List.mem_append_right _ m, v, r, L1, L2, rfl, rfl, g1.frame (fun _ _ z => z) fun a ha => he a fun z => ?_, q⟩
    subst z
    exact (List.nodup_append.mp nd).2.2 a ha a m rfl
/-- the inner list of a slot's thing, and the thing with another in its place -/
theorem child_at {w : Wd} {env : Ev} {σ : L2.St} {i : Nat} {c j : D} {jv : V} {ds : List D} (Rl : Rel G ms lk w env σ) (hm : md ms i = 2) (hl : i ∉ lk) (hi : env[i]? = some (some c)) (hc : chD c j = some ds) (hj : Fz G.K G.CA (unl w.H) j jv) :
    ∃ a a1 ys, σ[i]? = some (some (.ref a)) ∧ a ∈ w.Ls i ∧ a1 ∈ w.Ls i ∧ Loc (isDic c) w.H a jv a1 ∧ w.H a1 = some (.lst ys) ∧ ds.length ≤ sizeLine ∧ FzA G.K G.CA w.Z ds ys ∧
      ∀ ds' ys', FzA G.K G.CA w.Z ds' ys' → ds'.length ≤ sizeLine → ∃ c2, stD c j ds' = some c2 ∧ Ow G.K G.CA w.Z (unl (upd w.H a1 (.lst ys'))) 2 c2 (.ref a) (w.Ls i) := by
  obtain ⟨v, hv, q⟩ := Rl.slot i c hi
  rw [hm] at q
  have nd := Rl.nd i
  have inn : ∀ {d : D} {x : V} {l : List Addr} {ds : List D}, d = .lst ds → Ow G.K G.CA w.Z (unl w.H) 1 d x l → ∃ a1 ys, x = .ref a1 ∧ w.H a1 = some (.lst ys) ∧ ds.length ≤ sizeLine ∧ FzA G.K G.CA w.Z ds ys := fun {d x l ds} e h => by
    subst e
    obtain ⟨a1, ys, L', rfl, g1, g2, rfl, g3⟩ := h
    exact ⟨a1, ys, rfl, unl_lst g1, g2, (al0_fz g3).1⟩
  cases c with
  | dct ks =>
    obtain ⟨a, xs, L', rfl, h1, h2, h3, h4⟩ := q
    have ha : a ∈ w.Ls i := by rw [h3]; exact List.mem_cons_self
    have hH : w.H a = some (.dK xs) := by rw [← Rl.nl i hl a ha]; exact h1
    have hc : (match keyOf j with | some k => (match valD ks k with | some (.lst ds) => some ds | _ => none) | none => none) = some ds := hc
    cases ek : keyOf j with
    | none => rw [ek] at hc; cases hc
    | some k0 =>
      rw [ek] at hc
      dsimp only at hc
      split at hc
      · rename_i ds0 hv0
        cases hc
        obtain ⟨n, g1, g2⟩ := valD_at hv0
        obtain ⟨x, l, g3, g4, g5⟩ := h4.at g1
        obtain ⟨kx, vx⟩ := x
        obtain ⟨e0, g4⟩ := g4
        cases (show k0 = kx from e0)
        obtain ⟨a1, ys, rfl, g6, g7, g8⟩ := inn rfl g4
        have hval : valV xs k0 = some (.ref a1) := g2 V xs _ h4.keys g3
        rw [h3] at nd
        have nd' := (List.nodup_cons.mp nd)
        have hne : a ≠ a1 := fun z => by rw [← z, hH] at g6; cases g6
        have up := fun (ds' : List D) (ys' : List V) (hf : FzA G.K G.CA w.Z ds' ys') (hl' : ds'.length ≤ sizeLine) => al_upK (G := G) (Z := w.Z) (h := unl w.H) (h' := unl (upd w.H a1 (.lst ys'))) (a1 := a1) (ys' := ys') (fun b hb => unl_eq (upd_ne hb)) (unl_of upd_same rfl) hf hl' h4 nd'.2 hv0 hval
        refine ⟨a, a1, ys, hv, ha, by rw [h3]; exact List.mem_cons_of_mem _ (up [] [] rfl (Nat.zero_le _)).1, .inl ⟨rfl, xs, k0, hH, keyOf_fz ek hj, hval⟩, g6, g7, g8, fun ds' ys' hf hl' => ⟨.dct (updK ks k0 (.lst ds')), by unfold stD; dsimp only; rw [ek]; rfl, a, xs, L', rfl, ?_, ?_, h3, (up ds' ys' hf hl').2⟩⟩
        · rw [unl_eq (upd_ne hne)]; exact h1
        · have : ∀ (ks : List (Key × D)), (updK ks k0 (.lst ds')).length = ks.length := by
            intro ks
            induction ks with
            | nil => rfl
            | cons q r ih =>
              obtain ⟨k', d'⟩ := q
              unfold updK
              split
              · rfl
              · rw [List.length_cons, List.length_cons, ih]
          rw [this]; exact h2
      · cases hc
  | lst ks =>
    obtain ⟨a, xs, L', rfl, h1, h2, h3, h4⟩ := q
    have ha : a ∈ w.Ls i := by rw [h3]; exact List.mem_cons_self
    have hH : w.H a = some (.lst xs) := by rw [← Rl.nl i hl a ha]; exact h1
    cases j with
    | int n =>
      have hc : (match atI ks n with | some (.lst ds) => some ds | _ => none) = some ds := hc
      split at hc
      · rename_i ds0 hv0
        cases hc
        unfold atI at hv0
        cases ei : ixN ks.length n with
        | none => rw [ei] at hv0; cases hv0
        | some n0 =>
          rw [ei] at hv0
          have hv0 : ks[n0]? = some (.lst ds) := hv0
          obtain ⟨x, l, g3, g4, g5⟩ := h4.at hv0
          obtain ⟨a1, ys, rfl, g6, g7, g8⟩ := inn rfl g4
          rw [h3] at nd
          have nd' := (List.nodup_cons.mp nd)
          have up := fun (ds' : List D) (ys' : List V) (hf : FzA G.K G.CA w.Z ds' ys') (hl' : ds'.length ≤ sizeLine) => al_upL (G := G) (Z := w.Z) (h := unl w.H) (h' := unl (upd w.H a1 (.lst ys'))) (a1 := a1) (ys' := ys') (fun b hb => unl_eq (upd_ne hb)) (unl_of upd_same rfl) hf hl' h4 nd'.2 hv0 g3
          have hin := (up [] [] rfl (Nat.zero_le _)).1
          have hne : a ≠ a1 := fun z => nd'.1 (by rw [z]; exact hin)
          refine ⟨a, a1, ys, hv, ha, by rw [h3]; exact List.mem_cons_of_mem _ hin, .inr ⟨rfl, xs, n, hH, hj, ?_⟩, g6, g7, g8, fun ds' ys' hf hl' => ⟨.lst (ks.set n0 (.lst ds')), by unfold stD; dsimp only; rw [ei]; rfl, a, xs, L', rfl, ?_, by rw [List.length_set]; exact h2, h3, (up ds' ys' hf hl').2⟩⟩
          · unfold atI; rw [h4.length, ei]; exact g3
          · rw [unl_eq (upd_ne hne)]; exact h1
      · cases hc
    | _ => cases hc
  | _ => cases hc
/-- x[j].m(..), x a slot that owns its lists -/
def dLmP (i : Nat) (cj : DE) (f : LM) (cs : DA) : DE := fun env => match env[i]? with
  | some (some c0) => bnd cj (fun j env0 => match env0[i]? with
    | some (some c) => if isDic c = isDic c0 then (match chD c j with
      | some _ => bnd cs (fun as env1 => match env1[i]? with
        | some (some c1) => match chD c1 j with
          | some ds => match f ds as with
            | some (res, ds') => match stD c1 j ds' with
              | some c2 => some (.ok res (env1.set i (some c2)))
              | none => none
            | none => none
          | none => none
        | _ => none) env0
      | none => none) else none
    | _ => none) env
  | _ => none
theorem lmp_end {i : Nat} {r : V → List V → Hp → VK → Prop} {f : LM} (hv : VM G r f) (hm : md ms i = 2) (hl : i ∉ lk) {w w1 : Wd} {env1 : Ev} {σ : L2.St} {Q : VK} {as : List D} {vs : List V} {o : Out D} {a a1 : Addr} {j : D} {jv : V} {w0 : Wd} (R1 : Rel G ms lk w1 env1 σ) (x1 : Ext (i :: Ea) w w1) (fa : FzA G.K G.CA w1.Z as vs) (hj : Fz G.K G.CA (unl w1.H) j jv)
    (hσ : σ[i]? = some (some (.ref a))) {t : Bool} (hloc : Loc t w0.H a jv a1) (hsame : w1.H a = w0.H a)
    (ho : (match env1[i]? with
      | some (some c1) => match chD c1 j with
        | some ds => match f ds as with
          | some (res, ds') => match stD c1 j ds' with
            | some c2 => some (Out.ok res (env1.set i (some c2)))
            | none => none
          | none => none
        | none => none
      | _ => none) = some o) (F : Fin G ms lk (.own 0) (i :: Ea) XE w σ Q o) : r (.ref a1) vs w1.H Q := by
  split at ho
  · rename_i c1 hi
    split at ho
    · rename_i ds hc
      split at ho
      · rename_i res ds' hf
        split at ho
        · rename_i c2 hst
          cases ho
          obtain ⟨a', a1', ys, h1, h2, h3, h4, h5, h6, h7, h8⟩ := child_at R1 hm hl hi hc hj
          rw [hσ] at h1
          cases h1
          cases hloc.fn h4 hsame
          obtain ⟨v, xs', g1, g2, g3, g4⟩ := hv w1.Z w1.H a1 ds ys as vs res ds' Q R1.sub h5 h6 h7 fa hf
          refine g4 ?_
          obtain ⟨c2', hst', how⟩ := h8 ds' xs' g2 g3
          rw [hst] at hst'
          cases hst'
          have R2 := R1.mutIn (c2 := c2) (o' := .lst xs') hi hσ h3 rfl (fun _ z => by cases z) (by rw [hm]; exact how)
          exact F ⟨w1.Z, upd w1.H a1 (.lst xs'), w1.Ls⟩ v [] R2 (x1.trans (Ext.mutIn R1 h3 List.mem_cons_self)) ⟨⟨rfl, g1⟩, List.nodup_nil, fun _ z => by cases z⟩ .nil
        · cases ho
      · cases ho
    · cases ho
  · cases ho
theorem se_lmP {i : Nat} {x m : Str} {px : Pos} {id : String} {r : V → List V → Hp → VK → Prop} {f : LM} (slot : Slot "list" m id) (hty : typeOf (.builtin id) = pure (.type "method_descriptor")) (hr : MtR X id r) (hv : VM G r f) (hu : X.A.units + 1 < cLine) (hx : PE X (.Name x px) (tVar i)) (hb : PE X b (tD G ms lk (.own 0) Eb XE cb)) (ha : PA X (a :: es) (tA G ms lk ks Ea XE cs))
    (hsub : ∀ o i, subscripted b false o i = operate [o, i] (getItem o i) := by exact fun _ _ => rfl) (hk : ∀ k ∈ ks, k = .own 0 := by intro k hk; repeat' (first | (exact hk.trans rfl) | (cases hk; done) | (rcases List.mem_cons.mp hk with hk | hk))) (hm : md ms i = 2 := by rfl) (hl : i ∉ lk := by decide) (hEb : i ∉ Eb := by decide) (hEa : i ∉ Ea := by decide) (hK : X.K = G.K := by rfl)
    (hbase : attributeBase (.Subscript (.Name x px) b pos) m X.env (eval (.Subscript (.Name x px) b pos) X.env) = eval (.Subscript (.Name x px) b pos) X.env := by rfl)
    (hfew : ((backTo cpos (starEach (a :: es) X.env)).all (fun x => !x.1) && (backToKw cpos (keywordEach [] X.env)).all (fun x => x.1.isSome)
      && decide ((a :: es).length + ([] : List Keyword).length + (if ([] : List Keyword).isEmpty then 0 else 1) < 30)) = true := by rfl)
    (hline : (apos.endLine == cpos.line) = true := by rfl) (hs : starEach (a :: es) X.env = (false, eval a X.env) :: starEach es X.env := by rfl) (hplain : (backTo cpos (starEach es X.env)).any (·.1) = false := by rfl) :
    PE X (.Call (.Attribute (.Subscript (.Name x px) b pos) m apos) (a :: es) [] cpos) (tD G ms lk (.own 0) (i :: (Eb ++ Ea)) XE (dLmP i cb f cs)) := PE.weak (PE.or (pe_bm PySem.F.plainAttrs_list slot hty hr (pe_ix ix_seq hx hb hsub) ha hbase hfew hline hs hplain) (pe_bm PySem.F.plainAttrs_list slot hty hr (pe_dget hu hx hb hsub) ha hbase hfew hline hs hplain)) fun σ H Q ⟨w, env, o, hH, R, ho, F⟩ => by
  rw [← hH]
  have lb : ∀ j ∈ Eb, j ∈ i :: (Eb ++ Ea) := fun j hj => List.mem_cons_of_mem _ (List.mem_append_left _ hj)
  have la : ∀ j ∈ Ea, j ∈ i :: (Eb ++ Ea) := fun j hj => List.mem_cons_of_mem _ (List.mem_append_right _ hj)
  unfold dLmP at ho
  split at ho
  rotate_left
  · cases ho
  rename_i c0 hi0
  obtain ⟨v0, hv0, _⟩ := R.slot i c0 hi0
  have main : ∀ (w0 : Wd) (env0 : Ev) (j : D) (jv : V) (L0 : List Addr) , Rel G ms lk w0 env0 σ → Ext Eb w w0 → ValR G w0 j jv L0 (.own 0) → ∀ o, (match env0[i]? with
    | some (some c) => if isDic c = isDic c0 then (match chD c j with
      | some _ => bnd cs (fun as env1 => match env1[i]? with
        | some (some c1) => match chD c1 j with
          | some ds => match f ds as with
            | some (res, ds') => match stD c1 j ds' with
              | some c2 => some (Out.ok res (env1.set i (some c2)))
              | none => none
            | none => none
          | none => none
        | _ => none) env0
      | none => none) else none
    | _ => none) = some o → Fin G ms lk (.own 0) (i :: (Eb ++ Ea)) XE w σ Q o → ∃ a a1 ys, v0 = .ref a ∧ Loc (isDic c0) w0.H a jv a1 ∧ w0.H a1 = some (.lst ys) ∧
        tA G ms lk ks Ea XE cs σ w0.H fun vs H2 => r (.ref a1) vs H2 Q := by
    intro w0 env0 j jv L0 R0 x0 V0 o ho F
    split at ho
    · rename_i c hi
      split at ho
      · rename_i hdic
        split at ho
        · rename_i ds hc
          obtain ⟨a', a1, ys, h1, h2, h3, h4, h5, h6, h7, _⟩ := child_at R0 hm hl hi hc (V0.rd R0.sub)
          rw [hv0] at h1
          injection h1 with h1
          injection h1 with h1
          refine ⟨a', a1, ys, h1, by rw [← hdic]; exact h4, h5, ?_⟩
          refine tA.bindG (FF := fun w' o => Fin G ms lk (.own 0) (i :: (Eb ++ Ea)) XE w σ Q o) R0 ho F (fun w1 x F => F) (fun x e eo F w' p R' x' P => by subst eo; exact F w' p R' ((x0.mono lb).trans (x'.mono la)) P) fun w1 env1 as vs L R1 x1 V1 n1 ho1 _ => ?_
          have hsame : w1.H a' = w0.H a' := x1.keepAt (fun z => R0.there h2 z) (fun j hj z => R0.dj i j (fun e => hEa (by rw [e]; exact hj)) a' h2 z) (R0.zn i a' h2)
          exact lmp_end (Ea := Eb ++ Ea) (w0 := w0) hv hm hl R1 ((x0.mono lb).trans (x1.mono la)) (V1.fz hk) ((V0.ext x1 (fun _ z => by cases z) R0.dz).rd R1.sub) (by rw [hv0, h1]) h4 hsame ho1 F
        · cases ho
      · cases ho
    · cases ho
  by_cases hd0 : isDic c0 = true
  · refine .inr ⟨v0, hv0, ?_⟩
    refine tD.bindG (FF := fun w' o => Fin G ms lk (.own 0) (i :: (Eb ++ Ea)) XE w σ Q o) R ho F (fun w1 x F => F) (fun x e eo F w' p R' x' P => by subst eo; exact F w' p R' (x'.mono lb) P) fun w0 env0 j jv L0 R0 x0 V0 n0 ho0 F0 => ?_
    obtain ⟨a', a1, ys, rfl, h2, h3, h4⟩ := main w0 env0 j jv L0 R0 x0 V0 o ho0 F0
    rcases h2 with ⟨_, kvs, k0, g1, g2, g3⟩ | ⟨z, _⟩
    · exact ⟨a', .ref a1, rfl, .inl ⟨kvs, k0, .inl g1, g2, g3.symm⟩, by rw [hK]; exact .inl ⟨rfl, ys, .inl (.inl h3)⟩, h4⟩
    · rw [hd0] at z; cases z
  · refine .inl ⟨v0, hv0, ?_⟩
    refine tD.bindG (FF := fun w' o => Fin G ms lk (.own 0) (i :: (Eb ++ Ea)) XE w σ Q o) R ho F (fun w1 x F => F) (fun x e eo F w' p R' x' P => by subst eo; exact F w' p R' (x'.mono lb) P) fun w0 env0 j jv L0 R0 x0 V0 n0 ho0 F0 => ?_
    obtain ⟨a', a1, ys, rfl, h2, h3, h4⟩ := main w0 env0 j jv L0 R0 x0 V0 o ho0 F0
    rcases h2 with ⟨z, _⟩ | ⟨_, xs, n, g1, g2, g3⟩
    · exact absurd z hd0
    · rw [hK]
      exact .inl ⟨a', xs, n, .ref a1, rfl, g2, .inl (.inl g1), g3, .inl ⟨rfl, ys, .inl (.inl h3)⟩, h4⟩
end
end PD
namespace PD
open PySem PySem.Spec PyProof.Rows L2 GF
/-! ### name = {k: v for ..} -/
section
variable {X : Cx}
theorem sw_dict {kx vx : Expr} {gens : List Comprehension} {sco : Scope} {cp pn : Pos} {nm : Str} {ln : Nat} {ev : Env} (h1 : ev.scope.kind = .function) (h2 : ev.scope.names.lookup nm = some .local) (h3 : (pn.line == cp.line) = true)
    (h4 : (sco.names.any fun (n, k) => n == nm && (k == .local || k == .cell)) = false) : swapsWith (.DictComp kx vx gens sco cp) (some (.Name nm pn)) ln ev = pure true := by
  have q1 : ev.kindOf nm = some .local := h2
  have q2 : ev.blockKind = .function := by unfold Env.blockKind; rw [h1]; rfl
  unfold swapsWith; simp only [q1, q2, h3, h4, Expr.pos]; rfl
theorem ps_setDc {i : Nat} {nm : Str} {pn : Pos} {kx vx tg iter : Expr} {ifs : List Expr} {sco : Scope} {own : List (Str × Nat)} {cp sp : Pos} {wi : TI} {g : TG} {tt : TT} {tk tv : TE} (calm : X.calm = true) (nd : X.N.Nodup) (hy : X.N[i]? = some nm) (hl : X.env.scope.names.lookup nm = some .local)
    (hsw : swapsWith (.DictComp kx vx [⟨tg, iter, ifs, 0⟩] sco cp) (some (.Name nm pn)) sp.line X.env = pure true) (hi : PI X tg iter wi) (blk : BlkOk X.N X.env.scope sco own)
    (pg : ∀ (s : Shared) (H : Hp) (C : Addr) (cl : List (Str × Addr)) (fp : List Addr), PG (X.blk s H sco (compEnvC sco cl C X.env) fp) tg g) (pt : ∀ (s : Shared) (H : Hp) (C : Addr) (cl : List (Str × Addr)) (fp : List Addr), PTs (X.blk s H sco (compEnvC sco cl C X.env) fp) ifs tt)
    (pk : ∀ (s : Shared) (H : Hp) (C : Addr) (cl : List (Str × Addr)) (fp : List Addr), PE (X.blk s H sco (compEnvC sco cl C X.env) fp) kx tk)
    (pv : ∀ (s : Shared) (H : Hp) (C : Addr) (cl : List (Str × Addr)) (fp : List Addr), PE (X.blk s H sco (compEnvC sco cl C X.env) fp) vx tv) (fd : ∀ x, foldedSetIterable iter X.env x = pure x := by intro _; rfl) :
    PS X (.Assign [.Name nm pn] (.DictComp kx vx [⟨tg, iter, ifs, 0⟩] sco cp) sp) (tAsg (tDc wi g tt tk tv (own.map (·.2))) (gName i)) := by
  refine ⟨fun pins s σ H D I rd => ?_⟩
  rw [exec_Assign_Name_used _ _ _ _ hsw]
  refine wpAny_bind (wpAny_standAt (wpAny_bind ?_))
  show wpAny _ X.A (do let _ ← comprehension (.DictComp kx vx [⟨tg, iter, ifs, 0⟩] sco cp) sco X.env (firstIterPos [⟨tg, iter, ifs, 0⟩] cp) newDict false (eval iter X.env) (some (assign (.Name nm pn) X.env))) _ _ s
  have rd : tDc wi g tt tk tv (own.map (·.2)) σ H (fun x H1 => gName i x σ H1 D.nx) := rd
  refine wpAny_bind (thn (dc_core (Qf := fun _ s' => SP X pins D .next s') calm nd I hi blk pg pt pk pv fd rd fun L C s' n H' I' q hn f => ?_) fun _ s' hq => wpAny_pure (wpAny_pure hq))
  show wpAny _ _ (assign (.Name nm pn) X.env (.ref L)) _ _ _
  obtain ⟨f0, f1, f2, f3, f4, f5⟩ := f
  refine wpAny_assign_Name (store_ok2 (v := V.ref L) I' nd hy (.inl hl) rfl (fun s2 I2 ⟨b, sb, hb⟩ => ?_) (.inr hl))
  have ne : C ≠ b := hb.elim (fun z => by rw [z]; exact f1) fun z e => f4 nm b z e.symm
  exact ⟨n, hn.sameBut sb ne, fun h3 sb3 => ⟨_, H', I2.turned (t' := s2.toks) (fun c o hc e => (sb3.2 c hc).trans e) f0 f1 f3 f4 f5, q⟩⟩
end
section
variable {X : Cx} {K : PySem.W.Frag} {G : Gc} {ms lk ms' : List Nat} {k ka kb : Kd} {bs E E1 Ea Eb Ei Et Ek Ee : List Nat} {R : Rt} {XE : XK} {pos p tpos spos py : Pos} {a b e tg iter kx vx : Expr} {es elts ifs : List Expr} {ca cb ce ck : DE} {cs : DA} {c : DS} {body : List Stmt} {Dn : Ends} {kk : Nat} {scope : Scope} {own : List (Str × Nat)}
theorem ss_setDc {t : Tg} {g : TG} {tt : DB} {i : Nat} {y : Str} (m : Nat) (T : TgS G.K t g) (hc : X.calm = true) (hN : X.N.Nodup) (hy : X.N[i]? = some y) (hyl : X.env.scope.names.lookup y = some .local)
    (hsw : swapsWith (.DictComp kx vx [⟨tg, iter, ifs, 0⟩] scope pos) (some (.Name y py)) spos.line X.env = pure true) (hi : PI X tg iter (tI G ms lk bs Ei XE cs)) (ok : BlkOk X.N X.env.scope scope own)
    (hg : ∀ (s : Shared) (H : Hp) (C : Addr) (cl : List (Str × Addr)) (fp : List Addr), PG (X.blk s H scope (compEnvC scope cl C X.env) fp) tg g) (ht : ∀ (s : Shared) (H : Hp) (C : Addr) (cl : List (Str × Addr)) (fp : List Addr), PTs (X.blk s H scope (compEnvC scope cl C X.env) fp) ifs (tT G ms lk Et E0 tt))
    (hk : ∀ (s : Shared) (H : Hp) (C : Addr) (cl : List (Str × Addr)) (fp : List Addr), PE (X.blk s H scope (compEnvC scope cl C X.env) fp) kx (tD G ms lk (.own 0) Ek E0 ck))
    (he : ∀ (s : Shared) (H : Hp) (C : Addr) (cl : List (Str × Addr)) (fp : List Addr), PE (X.blk s H scope (compEnvC scope cl C X.env) fp) vx (tD G ms lk (.own m) Ee E0 ce))
    (hs : ∀ i ∈ t.sl, i < ms.length ∧ ms.set i 0 = ms ∧ i ∉ G.pins := by try dsimp only; decide +kernel) (hv : ∀ i ∈ t.sl, i ∈ own.map (·.2) := by decide) (hp : ∀ i ∈ own.map (·.2), i ∉ G.pins := by try dsimp only; decide +kernel) (hd : ∀ j ∈ bs, j ∉ own.map (·.2) ++ (Et ++ (Ek ++ Ee)) := by decide)
    (hi2 : i < ms.length := by decide) (hp2 : i ∉ G.pins := by try dsimp only; decide +kernel) (hf : ∀ x, foldedSetIterable iter X.env x = pure x := by intro _; rfl) :
    PS X (.Assign [.Name y py] (.DictComp kx vx [⟨tg, iter, ifs, 0⟩] scope pos) spos) (tS G ms lk (ms.set i (m + 1)) (i :: (Ei ++ (own.map (·.2) ++ (Et ++ (Ek ++ Ee))))) R XE (sSet i (dDc m cs t tt ck ce (own.map (·.2))))) :=
  PS.weak (ps_setDc hc hN hy hyl hsw hi ok hg ht hk he hf) fun _ _ _ h => tDc_of T hs hv hp hd (tSet_of hi2 hp2 h)
/-- behind the store the name is frozen -/
theorem ss_set0 {i m : Nat} {st : Stmt} {ct : DE} (h : PS X st (tS G ms lk (ms.set i (m + 1)) E R XE (sSet i ct))) (hi : i < (ms.set i (m + 1)).length := by decide) : PS X st (tS G ms lk ((ms.set i (m + 1)).set i 0) (i :: E) R XE (sSet i ct)) := ss_frzN i h hi
end
end PD
namespace PD
open PySem PySem.Spec PyProof.Rows L2 GF
/-! ### methods that only read -/
section
variable {X : Cx} {K : PySem.W.Frag} {G : Gc} {ms lk ms' : List Nat} {k ka kb kc : Kd} {ks : List Kd} {bs E E1 Ea Eb Ec : List Nat} {R : Rt} {XE : XK} {pos p apos cpos tpos : Pos} {a b b2 e tg iter : Expr} {es elts : List Expr} {ca cb cc : DE} {cs : DA} {c : DS} {body : List Stmt} {Dn : Ends} {kk : Nat}
def tyD : D → String
  | .lst _ => "list"
  | .str _ => "str"
  | .int _ => "int"
  | _ => ""
/-- a method's rule, seen from the trees -/
def VR (G : Gc) (r : V → List V → Hp → VK → Prop) (g : D → List D → Option D) : Prop := ∀ (H : Hp) (x : V) (vs : List V) (dx : D) (ds : List D) (d : D) (Q : VK), Fz G.K G.CA (unl H) dx x → FzA G.K G.CA (unl H) ds vs → g dx ds = some d → ∃ v, av d = some v ∧ (Q v H → r x vs H Q)
def dRm (T : String) (g : D → List D → Option D) (a : DE) (cs : DA) : DE := bnd a fun d => if tyD d = T then bnd cs fun ds => lf (g d ds) else fun _ => none
theorem tyD_of {H : Hp} {d : D} {x : V} (h : Fz G.K G.CA (unl H) d x) (n : tyD d ≠ "") : tyV G.K (tyD d) x H := by
  cases d with
  | lst ds =>
    obtain ⟨a, xs, rfl, h1, _⟩ := h
    exact .inl ⟨rfl, xs, .inl (.inl (unl_lst h1))⟩
  | str s => rw [show x = .str s from h]; rfl
  | int s => rw [show x = .int s from h]; rfl
  | _ => exact absurd rfl n
theorem se_rm {T id : String} {m : Str} {r : V → List V → Hp → VK → Prop} {g : D → List D → Option D} (pa : PlainAttrs T) (slot : Slot T m id) (hty : typeOf (.builtin id) = pure (.type "method_descriptor")) (hr : MtR X id r) (hv : VR G r g) (ho' : PE X e (tD G ms lk k Eb XE cb)) (ha : PA X (a :: es) (tA G ms lk ks Ea XE cs)) (hT : T ≠ "" := by decide) (hd : ∀ j ∈ k.bs, j ∉ Ea := by decide) (hK : X.K = G.K := by rfl)
    (hbase : attributeBase e m X.env (eval e X.env) = eval e X.env := by rfl)
    (hfew : ((backTo cpos (starEach (a :: es) X.env)).all (fun x => !x.1) && (backToKw cpos (keywordEach [] X.env)).all (fun x => x.1.isSome)
      && decide ((a :: es).length + ([] : List Keyword).length + (if ([] : List Keyword).isEmpty then 0 else 1) < 30)) = true := by rfl)
    (hline : (apos.endLine == cpos.line) = true := by rfl) (hs : starEach (a :: es) X.env = (false, eval a X.env) :: starEach es X.env := by rfl) (hplain : (backTo cpos (starEach es X.env)).any (·.1) = false := by rfl) :
    PE X (.Call (.Attribute e m apos) (a :: es) [] cpos) (tD G ms lk (.own 0) (Eb ++ Ea) XE (dRm T g cb cs)) := PE.weak (pe_bm pa slot hty hr ho' ha hbase hfew hline hs hplain) fun σ H Q ⟨w, env, o, hH, R, ho, F⟩ => by
  rw [← hH]
  refine tD.bind R ho F (fun j hj => List.mem_append_left _ hj) fun w1 env1 d v L R1 x1 V1 n1 ho1 F1 => ?_
  split at ho1
  · rename_i ht
    subst ht
    refine ⟨by rw [hK]; exact tyD_of (V1.rd R1.sub) hT, ?_⟩
    refine tA.bind R1 ho1 F1 (fun j hj => List.mem_append_right _ hj) fun w2 env2 ds vs L2 R2 x2 V2' n2 ho2 F2 => ?_
    obtain ⟨z, hz, rfl⟩ := lf_some ho2
    obtain ⟨u, hu, q⟩ := hv w2.H v vs d ds z Q ((V1.ext x2 hd R1.dz).rd R2.sub) (V2'.rd R2.sub) hz
    exact q (F2 w2 u [] R2 .refl (ValR.atom hu) .nil)
  · cases ho1
theorem se_rm0 {T id : String} {m : Str} {r : V → List V → Hp → VK → Prop} {g : D → List D → Option D} (pa : PlainAttrs T) (slot : Slot T m id) (hty : typeOf (.builtin id) = pure (.type "method_descriptor")) (hr : MtR X id r) (hv : VR G r g) (ho' : PE X e (tD G ms lk k Eb XE cb)) (hT : T ≠ "" := by decide) (hK : X.K = G.K := by rfl)
    (hbase : attributeBase e m X.env (eval e X.env) = eval e X.env := by rfl) (hline : (apos.endLine == cpos.line) = true := by rfl) :
    PE X (.Call (.Attribute e m apos) [] [] cpos) (tD G ms lk (.own 0) Eb XE (dRm T g cb nilA)) := PE.weak (pe_bm0 pa slot hty hr ho' hbase hline) fun σ H Q ⟨w, env, o, hH, R, ho, F⟩ => by
  rw [← hH]
  refine tD.bind R ho F (fun j hj => hj) fun w1 env1 d v L R1 x1 V1 n1 ho1 F1 => ?_
  split at ho1
  · rename_i ht
    subst ht
    refine ⟨by rw [hK]; exact tyD_of (V1.rd R1.sub) hT, ?_⟩
    obtain ⟨ds, env2, he, ho2⟩ | ⟨x, e0, he, rfl⟩ := bnd_some ho1
    · cases he
      obtain ⟨z, hz, rfl⟩ := lf_some ho2
      obtain ⟨u, hu, q⟩ := hv w1.H v [] d [] z Q (V1.rd R1.sub) rfl hz
      exact q (F1 w1 u [] R1 .refl (ValR.atom hu) .nil)
    · cases he
  · cases ho1
/-- xs.index(y) -/
def idxD (x : D) (ds : List D) : Option Nat := if flatD x = true ∧ ds.all flatD = true then ds.findIdx? fun y => eqF y x else none
def gIndex : D → List D → Option D
  | .lst ds, [x] => (idxD x ds).map fun j => .int (j : Nat)
  | _, _ => none
theorem v_index : VR G (rIndex G.K) gIndex := fun H x vs dx ds d Q hx hv h => by
  unfold gIndex at h
  split at h
  · rename_i ys y
    obtain ⟨j, hj, rfl⟩ := Option.map_eq_some_iff.mp h
    unfold idxD at hj
    split at hj
    · rename_i f
      obtain ⟨v, r, rfl, h1, h2⟩ := hv
      cases (show _ = _ from h2)
      obtain ⟨a, xs, rfl, h3, _, h4⟩ := hx
      obtain ⟨hlt, h5, h6⟩ := List.findIdx?_eq_some_iff_getElem.mp hj
      refine ⟨.int (j : Nat), rfl, fun q => ?_⟩
      obtain ⟨z, hz, hz2⟩ := h4.at (List.getElem?_eq_getElem hlt)
      have fl : ∀ (n : Nat) (d : D), ys[n]? = some d → flatD d = true := fun n d e => List.all_eq_true.mp f.2 d (List.mem_of_getElem? e)
      refine ⟨a, xs, v, j, z, rfl, rfl, .inl (.inl (unl_lst h3)), flat_fz h1 f.1, flats_fz h4 f.2, hz, ?_, fun m z' hm hz' => ?_, q⟩
      · rw [eqF_fz hz2 h1 (fl _ _ (List.getElem?_eq_getElem hlt)) f.1]; exact h5
      · have hm2 : m < ys.length := by omega
        obtain ⟨z2, hz3, hz4⟩ := h4.at (List.getElem?_eq_getElem hm2)
        rw [hz'] at hz3
        cases hz3
        rw [eqF_fz hz4 h1 (fl _ _ (List.getElem?_eq_getElem hm2)) f.1]
        exact Bool.not_eq_true _ ▸ h6 m hm
    · cases hj
  · cases h
end
end PD
namespace PD
open PySem PySem.Spec PyProof.Rows L2 GF
/-! ### repr -/
def keyP : Key → PyData
  | .inl i => .int i
  | .inr x => .str x
mutual
def toR : D → PyData
  | .non => .none
  | .bl b => .bool b
  | .int i => .int i
  | .str s => .str s
  | .lst ds => .list (toRs ds)
  | .tup ds => .tuple (toRs ds)
  | .dct ks => .dict (toRk ks)
  | .dtt _ => .none
  | .obj _ _ => .none
  | .scr _ => .none
def toRs : List D → List PyData
  | [] => []
  | d :: ds => toR d :: toRs ds
def toRk : List (Key × D) → List (PyData × PyData)
  | [] => []
  | (k, d) :: ds => (keyP k, toR d) :: toRk ds
end
mutual
def okR : D → Bool
  | .lst ds => okRs ds
  | .tup ds => okRs ds
  | .dct ks => okRk ks
  | .dtt _ => false
  | .obj _ _ => false
  | .scr _ => false
  | _ => true
def okRs : List D → Bool
  | [] => true
  | d :: ds => okR d && okRs ds
def okRk : List (Key × D) → Bool
  | [] => true
  | (_, d) :: ds => okR d && okRk ds
end
mutual
theorem sh_of {K : PySem.W.Frag} {CA : Str → Addr} {H : Hp} : ∀ {d : D} {v : V}, Fz K CA (unl H) d v → okR d = true → Sh H v (toR d)
  | .non, _, h, _ => by cases (show _ = _ from h); exact .non
  | .bl b, _, h, _ => by cases (show _ = _ from h); exact .bl b
  | .int i, _, h, _ => by cases (show _ = _ from h); exact .int i
  | .str s, _, h, _ => by cases (show _ = _ from h); exact .str s
  | .lst ds, _, h, o => by
    obtain ⟨a, xs, rfl, h1, _, h2⟩ := h
    exact .lst (unl_lst h1) (shs_of h2 o)
  | .tup ds, _, h, o => by
    obtain ⟨a, xs, rfl, h1, _, h2⟩ := h
    exact .tup (unl_tup h1) (shs_of h2 o)
  | .dct ks, _, h, o => by
    obtain ⟨a, xs, rfl, h1, _, h2⟩ := h
    exact .dict (unl_dK h1) (shk_of h2 o)
  | .dtt _, _, _, o => by cases o
  | .obj _ _, _, _, o => by cases o
  | .scr _, _, _, o => by cases o
theorem shs_of {K : PySem.W.Frag} {CA : Str → Addr} {H : Hp} : ∀ {ds : List D} {vs : List V}, FzA K CA (unl H) ds vs → okRs ds = true → ShAll H vs (toRs ds)
  | [], _, h, _ => by cases (show _ = _ from h); exact .nil
  | d :: ds, _, h, o => by
    obtain ⟨v, r, rfl, h1, h2⟩ := h
    obtain ⟨o1, o2⟩ := Bool.and_eq_true_iff.mp (show (okR d && okRs ds) = true from o)
    exact .cons (sh_of h1 o1) (shs_of h2 o2)
theorem shk_of {K : PySem.W.Frag} {CA : Str → Addr} {H : Hp} : ∀ {ks : List (Key × D)} {vs : List (Key × V)}, FzK K CA (unl H) ks vs → okRk ks = true → ShKv H vs (toRk ks)
  | [], _, h, _ => by cases (show _ = _ from h); exact .nil
  | (k, d) :: ks, _, h, o => by
    obtain ⟨v, r, rfl, h1, h2⟩ := h
    obtain ⟨o1, o2⟩ := Bool.and_eq_true_iff.mp (show (okR d && okRk ks) = true from o)
    have q := ShKv.cons (k := k) (sh_of h1 o1) (shk_of h2 o2)
    cases k <;> exact q
end
def gRepr : List D → Option D
  | [d] => if okR d = true ∧ (toR d).showable = true ∧ (toR d).depth ≤ 60 ∧ (toR d).shown.length ≤ sizeLine then some (.str (toR d).shown) else none
  | _ => none
def rReprV : List V → Hp → VK → Prop := fun xs H Q => ∃ (v : V) (d : PyData), xs = [v] ∧ Sh H v d ∧ d.showable = true ∧ d.depth ≤ 60 ∧ d.shown.length ≤ sizeLine ∧ Q (.str d.shown) H
theorem call_reprV {X : Cx} (hg : X.A.guards = some []) (hu : X.A.units + 64 < cLine) : CallR X (.builtin "repr") rReprV := by
  intro pins s σ H xs us Q I r h
  obtain ⟨v, d, rfl, sh, hw, hd, hz, q⟩ := h
  by_cases hv : ∃ a, v = .ref a
  · obtain ⟨a, rfl⟩ := hv
    exact call_reprD hg hu pins s σ H [.ref a] us Q I r ⟨a, d, rfl, sh, hw, hd, hz, q⟩
  · obtain ⟨u, rfl, ru⟩ := vals1 r
    cases sh with
    | non =>
      cases ru
      exact PySem.P.repr_of_none ⟨.str _, H, I.tok _, ⟨_, rfl⟩, by simpa [PyData.shown] using q⟩
    | bl b =>
      cases ru
      exact PySem.P.repr_of_bool ⟨.str _, H, I.tok _, ⟨_, rfl⟩, by simpa [PyData.shown] using q⟩
    | int i =>
      obtain ⟨t, rfl⟩ := ru
      exact PySem.P.repr_of_int (by simpa [PyData.showable] using hw) ⟨.str _, H, I.tok _, ⟨_, rfl⟩, by simpa [PyData.shown] using q⟩
    | str x =>
      obtain ⟨t, rfl⟩ := ru
      exact PySem.P.repr_of_str ⟨.str _, H, I.tok _, ⟨_, rfl⟩, by simpa [PyData.shown] using q⟩ (by simpa [PyData.shown] using hz)
    | _ => exact absurd ⟨_, rfl⟩ hv
theorem v_repr {G : Gc} : VN G rReprV gRepr := fun H vs ds d Q h e => by
  unfold gRepr at e
  split at e
  · rename_i d0
    split at e
    · rename_i hc
      cases e
      obtain ⟨v, r, rfl, h1, h2⟩ := h
      cases (show _ = _ from h2)
      exact ⟨.str _, rfl, fun q => ⟨v, toR d0, rfl, sh_of h1 hc.1, hc.2.1, hc.2.2.1, hc.2.2.2, q⟩⟩
    · cases e
  · cases e
end PD
namespace PD
open PySem PySem.Spec PyProof.Rows L2 GF
/-! ### {k: v, ..} -/
section
variable {X : Cx} {K : PySem.W.Frag} {G : Gc} {ms lk ms' : List Nat} {k ka kb kc : Kd} {ks : List Kd} {bs E E1 Ea Eb Ec Ek Ev' : List Nat} {R : Rt} {XE : XK} {pos p apos cpos tpos : Pos} {a b b2 e tg iter kx vx : Expr} {es elts vals : List Expr} {keys : List (Option Expr)} {ca cb cc ck cv : DE} {cs : DA} {c : DS} {body : List Stmt} {Dn : Ends} {kk : Nat}
abbrev DP := Ev → Option (Out (List (Key × D)))
def nilP : DP := lf (some [])
def consP (a b : DE) (r : DP) : DP := bnd a fun x => match keyOf x with
  | some k => bnd b fun y => bnd r fun l => lf (some ((k, y) :: l))
  | none => fun _ => none
/-- pairs, their values owned to m levels -/
def VP (G : Gc) (w : Wd) (m : Nat) (l : List (Key × D)) (kvs : List (Key × V)) (L : List Addr) : Prop := Al3 (KR (Ow G.K G.CA w.Z (unl w.H) m)) l kvs L ∧ L.Nodup ∧ ∀ a ∈ L, w.Z a = none ∧ (∀ j, a ∉ w.Ls j) ∧ unl w.H a = w.H a
def FinP (G : Gc) (ms lk : List Nat) (m : Nat) (E : List Nat) (XE : XK) (w : Wd) (σ : L2.St) (Q : List (V × V) → Hp → Prop) : Out (List (Key × D)) → Prop
  | .ok l env' => ∀ w' kvs L, Rel G ms lk w' env' σ → Ext E w w' → VP G w' m l kvs L → New E w [] L → Q (kvs.map fun kv => (kV kv.1, kv.2)) w'.H
  | .ex x env' => ∀ w' p, Rel G ms lk w' env' σ → Ext E w w' → Pay G w' x p → XE (.ref (G.CA x.c)) p w'.H
def tP (G : Gc) (ms lk : List Nat) (m : Nat) (E : List Nat) (XE : XK) (c : DP) : L2.St → Hp → (List (V × V) → Hp → Prop) → Prop := fun σ H Q => ∃ w env o, w.H = H ∧ Rel G ms lk w env σ ∧ c env = some o ∧ FinP G ms lk m E XE w σ Q o
/-- the pairs of a display -/
structure PD2 (X : Cx) (G : Gc) (ms lk : List Nat) (m : Nat) (pos : Pos) (keys : List (Option Expr)) (vals : List Expr) (E : List Nat) (XE : XK) (c : DP) : Prop where
  ex : ∃ trs, PPs X pos keys vals trs ∧ ∀ σ H Q, tP G ms lk m E XE c σ H Q → tPairs trs σ H Q
theorem sp_nil {m : Nat} : PD2 X G ms lk m pos [] [] [] XE nilP := ⟨[], pps_nil, fun σ H Q ⟨w, env, o, hH, Rl, ho, F⟩ => by
  cases ho
  have := F w [] [] Rl .refl ⟨⟨rfl, rfl⟩, List.nodup_nil, fun _ z => by cases z⟩ .nil
  rw [hH] at this
  exact this⟩
theorem VP.ext {w w' : Wd} {m : Nat} {l : List (Key × D)} {kvs : List (Key × V)} {L : List Addr} (h : VP G w m l kvs L) (x : Ext E w w') (dz : DZ w) : VP G w' m l kvs L := by
  obtain ⟨h1, h2, h3⟩ := h
  have here : ∀ a ∈ L, w.H a ≠ none := by
    have all : ∀ {l : List (Key × D)} {kvs : List (Key × V)} {L : List Addr}, Al3 (KR (Ow G.K G.CA w.Z (unl w.H) m)) l kvs L → ∀ a ∈ L, unl w.H a ≠ none := by
      intro l
      induction l with
      | nil => intro kvs L q a ha; rw [q.2] at ha; cases ha
      | cons d l ih =>
        intro kvs L q a ha
        obtain ⟨v, r, L1, L2, rfl, rfl, g1, g2⟩ := q
        rcases List.mem_append.mp ha with z | z
        · exact g1.2.here a z
        · exact ih g2 a z
    exact fun a ha z => all h1 a ha (unl_none.mpr z)
  have keep : ∀ a ∈ L, w'.H a = w.H a := fun a ha => x.keepAt (here a ha) (fun j _ => (h3 a ha).2.1 j) (h3 a ha).1
  refine ⟨h1.imp fun d v l _ r hl => ⟨r.1, r.2.frame x.zz fun a ha => unl_eq (keep a (hl a ha))⟩, h2, fun a ha => ⟨?_, fun j hj => ?_, ?_⟩⟩
  · cases e : w'.Z a with
    | none => rfl
    | some o =>
      obtain ⟨j, _, q⟩ := x.zn a (by rw [e]; simp) (h3 a ha).1 (here a ha)
      exact absurd q ((h3 a ha).2.1 j)
  · obtain ⟨i, q, _⟩ := x.back hj (here a ha)
    exact (h3 a ha).2.1 i q
  · rw [unl_eq (keep a ha), keep a ha]; exact (h3 a ha).2.2
theorem tP.bindG {β : Type} {FF : Wd → Out β → Prop} {E1 : List Nat} {m : Nat} {w : Wd} {env : Ev} {σ : L2.St} {P : List (V × V) → Hp → Prop} {c : DP} {f : List (Key × D) → Ev → Option (Out β)} {o : Out β} (Rl : Rel G ms lk w env σ) (ho : bnd c f env = some o) (F : FF w o)
    (hx : ∀ x e, o = .ex x e → FF w o → ∀ w' p, Rel G ms lk w' e σ → Ext E1 w w' → Pay G w' x p → XE (.ref (G.CA x.c)) p w'.H)
    (hp : ∀ w1 env1 l kvs L, Rel G ms lk w1 env1 σ → Ext E1 w w1 → VP G w1 m l kvs L → New E1 w [] L → f l env1 = some o → P (kvs.map fun kv => (kV kv.1, kv.2)) w1.H) : tP G ms lk m E1 XE c σ w.H P := by
  rcases bnd_some ho with ⟨l, e1, he, ho1⟩ | ⟨x, e1, he, rfl⟩
  · exact ⟨w, env, .ok l e1, rfl, Rl, he, fun w' kvs L R' x V n => hp w' e1 l kvs L R' x V n ho1⟩
  · exact ⟨w, env, .ex x e1, rfl, Rl, he, hx x e1 rfl F⟩
theorem sp_cons {m : Nat} {r : DP} {Er : List Nat} (hk : PE X kx (tD G ms lk (.own 0) Ek XE ck)) (hv : PE X vx (tD G ms lk (.own m) Ea XE cv)) (hr : PD2 X G ms lk m pos keys vals Er XE r) : PD2 X G ms lk m pos (some kx :: keys) (vx :: vals) (Ek ++ (Ea ++ Er)) XE (consP ck cv r) := by
  obtain ⟨trs, h1, h2⟩ := hr.ex
  refine ⟨_, pps_cons hk hv h1, fun σ H Q ⟨w, env, o, hH, Rl, ho, F⟩ => ?_⟩
  have e1 : ∀ j ∈ Ek, j ∈ Ek ++ (Ea ++ Er) := fun j hj => List.mem_append_left _ hj
  have e2 : ∀ j ∈ Ea, j ∈ Ek ++ (Ea ++ Er) := fun j hj => List.mem_append_right _ (List.mem_append_left _ hj)
  have e3 : ∀ j ∈ Er, j ∈ Ek ++ (Ea ++ Er) := fun j hj => List.mem_append_right _ (List.mem_append_right _ hj)
  rw [← hH]
  refine tD.bindG (FF := fun w' o => FinP G ms lk m (Ek ++ (Ea ++ Er)) XE w σ Q o) Rl ho F (fun w1 x F => F) (fun x e eo F w' p R' x' P => by subst eo; exact F w' p R' (x'.mono e1) P) fun w1 env1 d v L R1 x1 V1 n1 ho1 F1 => ?_
  cases ek : keyOf d with
  | none => rw [ek] at ho1; cases ho1
  | some key =>
    rw [ek] at ho1
    dsimp only at ho1
    cases keyOf_fz ek V1.1.2
    refine tD.bindG (FF := fun w' o => FinP G ms lk m (Ek ++ (Ea ++ Er)) XE w σ Q o) R1 ho1 F1 (fun w1 x F => F) (fun x e eo F w' p R' x' P => by subst eo; exact F w' p R' ((x1.mono e1).trans (x'.mono e2)) P) fun w2 env2 d2 v2 L2 R2 x2 V2' n2 ho2 F2 => ?_
    refine h2 σ w2.H _ (tP.bindG (FF := fun w' o => FinP G ms lk m (Ek ++ (Ea ++ Er)) XE w σ Q o) R2 ho2 F2 (fun x e eo F w' p R' x' P => by subst eo; exact F w' p R' (((x1.mono e1).trans (x2.mono e2)).trans (x'.mono e3)) P) fun w3 env3 l kvs L3 R3 x3 V3 n3 ho3 => ?_)
    obtain ⟨z, hz, rfl⟩ := lf_some ho3
    cases hz
    have V23 := V2'.ext x3 (fun _ z => by cases z) R2.dz
    have x12 := (x1.mono e1).trans (x2.mono e2)
    have hh : ∀ a ∈ L2, w2.H a ≠ none := fun a ha z => V2'.1.here a ha (unl_none.mpr z)
    refine F w3 ((key, v2) :: kvs) (L2 ++ L3) R3 (x12.trans (x3.mono e3)) ⟨⟨(key, v2), kvs, L2, L3, rfl, rfl, ⟨rfl, V23.1⟩, V3.1⟩, List.nodup_append.mpr ⟨V23.2.1, V3.2.1, fun a ha b hb e => ?_⟩, fun a ha => ?_⟩ fun a ha hn => ?_
    · subst e
      obtain ⟨j, _, q⟩ := n3 a hb (hh a ha)
      exact (V2'.2.2 a ha).2.1 j q
    · rcases List.mem_append.mp ha with z | z
      · exact V23.2.2 a z
      · exact V3.2.2 a z
    · rcases List.mem_append.mp ha with z | z
      · obtain ⟨j, hj, q⟩ := ((n2.mono e2 fun _ z => z).back (x1.mono e1)) a z hn
        exact ⟨j, hj, q⟩
      · obtain ⟨j, hj, q⟩ := ((n3.mono e3 fun _ z => z).back x12) a z hn
        exact ⟨j, hj, q⟩
/-- {k: v, ..}: keys that differ, or values that are frozen -/
def dDisp (m : Nat) (c : DP) : DE := bnd c fun l => lf (if l.length ≤ 15 then (if m = 0 then some (.dct (mergeD [] l)) else if (l.map (·.1)).Nodup then some (.dct l) else none) else none)
theorem se_disp {cp : DP} (m : Nat) (h : PD2 X G ms lk m pos keys vals E XE cp) (hall : keys.all (·.isSome) = true := by rfl) (hl : keys.length = vals.length := by rfl) (h0 : keys ≠ [] := by simp) (h15 : keys.length ≤ 15 := by decide) :
    PE X (.Dict keys vals pos) (tD G ms lk (.own (m + 1)) E XE (dDisp m cp)) := by
  obtain ⟨trs, h1, h2⟩ := h.ex
  refine PE.weak (pe_disp h1 hall hl h0 h15) fun σ H Q ⟨w, env, o, hH, Rl, ho, F⟩ p hp => ?_
  rw [← hH] at hp ⊢
  have R0 := Rl.alloc (o := .dK []) hp rfl (fun _ z => by cases z)
  have x0 : Ext E w ⟨w.Z, upd w.H p (.dK []), w.Ls⟩ := Ext.alloc hp
  refine h2 σ _ _ (tP.bindG (w := ⟨w.Z, upd w.H p (.dK []), w.Ls⟩) (FF := fun w' o => Fin G ms lk (.own (m + 1)) E XE w σ Q o) R0 ho F (fun x e eo F w' p R' x' P => by subst eo; exact F w' p R' (x0.trans x') P) fun w3 env3 l kvs L R3 x3 V3 n3 ho3 => ?_)
  obtain ⟨z, hz, rfl⟩ := lf_some ho3
  split at hz
  rotate_left
  · cases hz
  rename_i hl15
  have pL : ∀ j, p ∉ w.Ls j := fun j q => Rl.there q hp
  have zp : w.Z p = none := Rl.zn0 hp
  have hp0 : (upd w.H p (.dK [])) p ≠ none := by rw [upd_same]; simp
  have keep : w3.H p = some (.dK []) := (x3.keepAt (a := p) hp0 (fun j _ => pL j) zp).trans upd_same
  have z3 : w3.Z p = none := by
    cases e : w3.Z p with
    | none => rfl
    | some o =>
      obtain ⟨j, _, q⟩ := x3.zn p (by rw [e]; simp) zp hp0
      exact absurd q (pL j)
  have l3 : ∀ j, p ∉ w3.Ls j := fun j q => by
    obtain ⟨i, q2, _⟩ := x3.back q hp0
    exact pL i q2
  have pL3 : p ∉ L := fun q => by
    obtain ⟨j, _, q2⟩ := n3 p q hp0
    exact pL j q2
  refine ⟨keep, kvs, rfl, by rw [V3.1.length]; exact hl15, ?_⟩
  have x13 := x0.trans x3
  have fin : ∀ (d : List (Key × D)), z = .dct d → d.length ≤ sizeLine → Al3 (KR (Ow G.K G.CA w3.Z (unl w3.H) m)) d (mergeK [] kvs) L → Q (.ref p) (upd w3.H p (.dK (mergeK [] kvs))) := fun d ed hd ha => by
    subst ed
    have fr : ∀ a, a ≠ p → unl (upd w3.H p (.dK (mergeK [] kvs))) a = unl w3.H a := fun a ha => unl_eq (upd_ne ha)
    have ne : ∀ a ∈ L, a ≠ p := fun a ha z => pL3 (by rw [← z]; exact ha)
    have nw : ∀ a, w.H a ≠ none → a ≠ p := fun a h z => h (by rw [z]; exact hp)
    refine F ⟨w3.Z, upd w3.H p (.dK (mergeK [] kvs)), w3.Ls⟩ (.ref p) (p :: L) (R3.mut z3 l3 rfl (fun _ z => by cases z)) ⟨x13.zz, fun a o e n => ?_, x13.zn, x13.ll, x13.ln, fun a h => ?_⟩ ⟨⟨p, mergeK [] kvs, L, rfl, unl_of upd_same rfl, hd, rfl, ha.imp fun d v l _ r hl => ⟨r.1, r.2.frame (fun _ _ z => z) fun a ha => fr a (ne a (hl a ha))⟩⟩, List.nodup_cons.mpr ⟨pL3, V3.2.1⟩, fun a ha => ?_⟩ fun a ha hn => ?_
    · show upd w3.H p _ a = some o ∨ (_ ∧ _ ∧ ∃ od, upd w3.H p _ a = some (.frz od o))
      rw [upd_ne (nw a (by rw [e]; simp))]
      exact x13.hh a o e n
    · show upd w3.H p _ a ≠ none
      rw [upd_ne (nw a h)]
      exact x13.al a h
    · show w3.Z a = none ∧ (∀ j, a ∉ w3.Ls j) ∧ unl (upd w3.H p (.dK (mergeK [] kvs))) a = upd w3.H p (.dK (mergeK [] kvs)) a
      by_cases hz : a = p
      · subst hz
        exact ⟨z3, l3, by rw [unl_of (H := upd w3.H a (.dK (mergeK [] kvs))) upd_same rfl]; exact upd_same.symm⟩
      · rw [fr a hz, upd_ne hz]
        exact V3.2.2 a ((List.mem_cons.mp ha).resolve_left hz)
    · rcases List.mem_cons.mp ha with rfl | ha
      · exact absurd hp hn
      · exact (n3.back x0) a ha hn
  split at hz
  · rename_i hm
    subst hm
    cases hz
    obtain ⟨g1, rfl⟩ := alK0 V3.1
    have hle := mergeD_len l []
    refine fin _ rfl (Nat.le_trans hle (Nat.le_trans (by simpa using hl15) (by show 15 ≤ sizeLine; decide))) (k0Al (g1.merge (ac := []) rfl))
  · split at hz
    · rename_i hnd
      cases hz
      have hk : mergeK [] kvs = kvs := mergeK_nodup (by rw [List.nil_append, V3.1.keys]; exact hnd)
      refine fin l rfl (Nat.le_trans hl15 (by show 15 ≤ sizeLine; decide)) (by rw [hk]; exact V3.1)
    · cases hz
end
end PD
namespace PD
open PySem PySem.Spec PyProof.Rows L2 GF
/-! ### list(d.items()), text methods -/
section
variable {X : Cx} {K : PySem.W.Frag} {G : Gc} {ms lk ms' : List Nat} {k ka kb kc : Kd} {ks : List Kd} {bs E E1 Ea Eb Ec : List Nat} {R : Rt} {XE : XK} {pos p apos cpos tpos : Pos} {a b b2 e tg iter : Expr} {es elts : List Expr} {ca cb cc : DE} {cs : DA} {c : DS} {body : List Stmt} {Dn : Ends} {kk : Nat}
def gUpper : D → List D → Option D
  | .str s, [] => if s.length ≤ 5592405 then some (.str (Txt.upper s)) else none
  | _, _ => none
theorem v_upper : VR G (fun x xs H Q => ∃ a, x = .str a ∧ xs = [] ∧ a.length ≤ 5592405 ∧ Q (.str (Txt.upper a)) H) gUpper := fun H x vs dx ds d Q hx hv h => by
  unfold gUpper at h
  split at h
  · split at h
    · rename_i s hl
      cases h
      cases (show vs = [] from hv)
      exact ⟨.str _, rfl, fun q => ⟨s, hx, rfl, hl, q⟩⟩
    · cases h
  · cases h
/-- Z with the new tuples -/
def zT (Z H' : Hp) : Hp := fun a => match Z a with
  | some o => some o
  | none => match H' a with
    | some (.tup xs) => some (.tup xs)
    | _ => none
theorem zT_same {Z H' : Hp} : Same Z (zT Z H') := fun a o e => by unfold zT; rw [e]
theorem zT_at {Z H' : Hp} {a : Addr} {xs : List V} (h : H' a = some (.tup xs)) (s : ∀ o, Z a = some o → o = .tup xs) : zT Z H' a = some (.tup xs) := by
  unfold zT
  cases e : Z a with
  | none => rw [h]
  | some o => rw [s o e]
theorem zT_new {Z H' : Hp} {a : Addr} (h : zT Z H' a ≠ none) (z : Z a = none) : ∃ xs, H' a = some (.tup xs) ∧ zT Z H' a = some (.tup xs) := by
  unfold zT at h ⊢
  rw [z] at h ⊢
  dsimp only at h ⊢
  split at h
  · rename_i xs e; exact ⟨xs, e, rfl⟩
  · exact absurd rfl h
def gItemsL : D → Option D
  | .dct ks => if ks.length ≤ sizeLine then some (.lst (ks.map fun p => .tup [kD p.1, p.2])) else none
  | _ => none
theorem Rel.more {w : Wd} {env : Ev} {σ : L2.St} (Rl : Rel G ms lk w env σ) {H' : Hp} (hk : ∀ b o, w.H b = some o → H' b = some o) : Rel G ms lk ⟨zT w.Z H', H', w.Ls⟩ env σ ∧ Ext E w ⟨zT w.Z H', H', w.Ls⟩ := by
  have hu : ∀ a, w.H a ≠ none → H' a = w.H a := fun a h => by
    cases e : w.H a with
    | none => exact absurd e h
    | some o => exact hk a o e
  have un : ∀ a, w.H a ≠ none → unl H' a = unl w.H a := fun a h => unl_eq (hu a h)
  have tupZ : ∀ a xs, H' a = some (.tup xs) → ∀ o, w.Z a = some o → o = .tup xs := fun a xs h o e => by
    have q := Rl.sub a o e
    have hne : w.H a ≠ none := fun z => by rw [unl_none.mpr z] at q; cases q
    rw [hu a hne] at h
    have := Rl.tz a xs h
    rw [e] at this
    cases this
    rfl
  refine ⟨⟨fun a o e => ?_, Rl.len, fun i d hd => ?_, Rl.emp, Rl.nd, Rl.dj, fun i a ha => ?_, fun i hi a ha => ?_, Rl.pin, fun a xs e => zT_at e (tupZ a xs e)⟩, ⟨zT_same, fun a o e _ => .inl (hk a o e), fun a z1 z2 z3 => ?_, fun _ _ => rfl, fun j hj a h _ => ⟨j, hj, h⟩, fun a h => by
    show H' a ≠ none
    rw [hu a h]; exact h⟩⟩
  · show unl H' a = some o
    have e : zT w.Z H' a = some o := e
    cases z : w.Z a with
    | some u =>
      have : zT w.Z H' a = some u := zT_same _ _ z
      rw [this] at e
      cases e
      have q := Rl.sub a o z
      rw [un a fun z => by rw [unl_none.mpr z] at q; cases q]
      exact q
    | none =>
      obtain ⟨xs, h1, h2⟩ := zT_new (by rw [e]; simp) z
      rw [h2] at e
      cases e
      exact unl_of h1 rfl
  · obtain ⟨v, hv, q⟩ := Rl.slot i d hd
    exact ⟨v, hv, q.frame zT_same fun a ha => un a (Rl.there ha)⟩
  · show zT w.Z H' a = none
    cases z : zT w.Z H' a with
    | none => rfl
    | some o =>
      obtain ⟨xs, h1, _⟩ := zT_new (by rw [z]; simp) (Rl.zn i a ha)
      rw [hu a (Rl.there ha)] at h1
      have := Rl.tz a xs h1
      rw [Rl.zn i a ha] at this
      cases this
  · show unl H' a = H' a
    rw [un a (Rl.there ha), hu a (Rl.there ha)]
    exact Rl.nl i hi a ha
  · obtain ⟨xs, h1, _⟩ := zT_new z1 z2
    rw [hu a z3] at h1
    have := Rl.tz a xs h1
    rw [z2] at this
    cases this
theorem items_fz {Z Z' H' : Hp} (zs : Same Z Z') : ∀ {ks : List (Key × D)} {kvs : List (Key × V)} {ts : List Addr}, FzE G.K G.CA Z ks kvs → Paired (fun (t : Addr) (q : Key × V) => H' t = some (.tup [kV q.1, q.2])) ts kvs → (∀ t ∈ ts, ∀ xs, H' t = some (.tup xs) → Z' t = some (.tup xs)) → FzA G.K G.CA Z' (ks.map fun p => .tup [kD p.1, p.2]) (ts.map V.ref)
  | [], _, _, h, p, _ => by
    cases (show _ = _ from h)
    cases p
    rfl
  | (k, d) :: ks, _, _, h, p, f => by
    obtain ⟨v, r, rfl, h1, h2⟩ := h
    cases p with
    | @cons t q ts _ p1 p2 =>
      exact ⟨.ref t, ts.map V.ref, rfl, ⟨t, [kV k, v], rfl, f t List.mem_cons_self _ p1, by show 2 ≤ sizeLine; decide, _, _, rfl, kD_fz k, _, _, rfl, h1.same zs, rfl⟩, items_fz zs h2 p2 fun t ht => f t (List.mem_cons_of_mem _ ht)⟩
/-- not locked, for sure -/
def Kd.unlk (lk : List Nat) : Kd → Bool
  | .own 1 => true
  | .bor 1 bs => bs.all fun j => decide (j ∉ lk)
  | _ => false
theorem se_listItems (hg : Gl X "list") (hm : X.mg "list" = none) (ha : PE X a (tD G ms lk k E XE ca)) (hc : X.calm = true := by rfl) (hu : k.unlk lk = true := by rfl) (hb : bootBuiltins "list" = some (.type "list") := by decide +kernel) (hbase : attributeBase a "items" X.env (eval a X.env) = eval a X.env := by rfl) (hline : (apos.endLine == cpos.line) = true := by rfl)
    (hs : starEach [.Call (.Attribute a "items" apos) [] [] cpos] X.env = (false, eval (.Call (.Attribute a "items" apos) [] [] cpos) X.env) :: starEach [] X.env := by rfl) :
    PE X (.Call (.Name "list" p) [.Call (.Attribute a "items" apos) [] [] cpos] [] pos) (tD G ms lk (.own 1) E XE (d1 gItemsL ca)) := PE.weak (LiI.pe_listItems hc ha hg hm hb hbase hline hs) fun σ H Q ⟨w, env, o, hH, R, ho, F⟩ => by
  rw [← hH]
  refine tD.bind R ho F (fun j hj => hj) fun w1 env1 d v L R1 x1 V1 n1 ho1 F1 => ?_
  obtain ⟨z, hz, rfl⟩ := lf_some ho1
  cases d with
  | dct ks =>
    unfold gItemsL at hz
    dsimp only at hz
    split at hz
    rotate_left
    · cases hz
    rename_i hl
    cases hz
    have key : ∃ a0 kvs, v = .ref a0 ∧ w1.H a0 = some (.dK kvs) ∧ FzE G.K G.CA w1.Z ks kvs := by
      cases k with
      | own m =>
        match m, hu, V1 with
        | 1, _, V1 =>
          obtain ⟨⟨a0, kvs, L', rfl, h1, h2, rfl, h3⟩, h4, h5⟩ := V1
          exact ⟨a0, kvs, rfl, by rw [← (h5 a0 List.mem_cons_self).2.2]; exact h1, (alK0 h3).1⟩
      | bor m bs =>
        match m, hu, V1 with
        | 1, hu, V1 =>
          obtain ⟨⟨a0, kvs, L', rfl, h1, h2, rfl, h3⟩, h4⟩ := V1
          obtain ⟨j, hj, q⟩ := h4 a0 List.mem_cons_self
          exact ⟨a0, kvs, rfl, by rw [← R1.nl j (of_decide_eq_true (List.all_eq_true.mp hu j hj)) a0 q]; exact h1, (alK0 h3).1⟩
      | tmp bs => cases hu
    obtain ⟨a0, kvs, rfl, h1, h2⟩ := key
    refine ⟨a0, kvs, rfl, h1, fun H' q ts hk hq ht hqt hH' hp => ?_⟩
    obtain ⟨R2, x2⟩ := R1.more (E := E) hk
    have zq : w1.Z q = none := R1.zn0 hq
    have zq2 : zT w1.Z H' q = none := by unfold zT; rw [zq, hH']
    refine F1 ⟨zT w1.Z H', H', w1.Ls⟩ (.ref q) [q] R2 x2 ⟨⟨q, ts.map V.ref, [], rfl, unl_of hH' rfl, by rw [List.length_map]; exact hl, rfl, fz_al0 (items_fz zT_same h2 hp fun t ht' xs e => zT_at e fun o e2 => by rw [R1.zn0 (ht t ht')] at e2; cases e2)⟩, by simp, fun b hb' => ?_⟩ fun b hb' hn => ?_
    · cases (by simpa using hb' : b = q)
      exact ⟨zq2, fun j z => R1.there z hq, by show unl H' _ = H' _; rw [unl_of hH' rfl]; exact hH'.symm⟩
    · cases (by simpa using hb' : b = q)
      exact absurd hq hn
  | _ => cases hz
end
end PD
namespace PD
open PySem PySem.Spec PyProof.Rows L2 GF
/-! ### list(d), sorted(d), tuple(xs), xs.insert(i, y), two items exchanged -/
section
variable {X : Cx} {K : PySem.W.Frag} {G : Gc} {ms lk ms' : List Nat} {k ka kb kc : Kd} {ks : List Kd} {bs E E1 Ea Eb Ec : List Nat} {R : Rt} {XE : XK} {pos p apos cpos tpos p1 p2 : Pos} {a b b2 e tg iter : Expr} {es elts : List Expr} {ca cb cc : DE} {cs : DA} {c : DS} {body : List Stmt} {Dn : Ends}
theorem fzE_keys {κ : Type} {Z : Hp} : ∀ {ks : List (κ × D)} {xs : List (κ × V)}, FzE G.K G.CA Z ks xs → xs.map (·.1) = ks.map (·.1)
  | [], _, h => by rw [show _ = _ from h]; rfl
  | (k, d) :: ks, _, h => by
    obtain ⟨v, r, rfl, _, h2⟩ := h
    rw [List.map_cons, List.map_cons, fzE_keys h2]
def gListV : List D → Option D := one1 fun d => match d with
  | .lst ds => some (.lst ds)
  | .dct ks => if ks.length ≤ sizeLine then some (.lst (ks.map fun p => kD p.1)) else none
  | _ => none
theorem se_listV (hc0 : X.calm = true) (hg : Gl X "list") (hm : X.mg "list" = none) (ha : PA X [a] (tA G ms lk [k] E XE cs)) (ok : k.okc = true := by rfl) (hc : k.chi = .own 0 := by rfl) (hb : bootBuiltins "list" = some (.type "list") := by decide +kernel) (he : starEach [a] X.env = (false, eval a X.env) :: starEach [] X.env := by rfl) (hpl : (backTo pos (starEach [] X.env)).any (·.1) = false := by rfl) (hK : X.K = G.K := by rfl) :
    PE X (.Call (.Name "list" p) [a] [] pos) (tD G ms lk (.own 1) E XE (dN gListV cs)) := PE.weak (pe_callTy (call_list_of.or (call_listD hc0)) hg hm hb ha (by decide) (by decide) he hpl) fun σ H Q ⟨w, env, o, hH, R, ho, F⟩ => by
  rw [← hH]
  refine tA.bind R ho F (fun _ z => z) fun w1 env1 ds vs L R1 x1 V1 n1 ho1 F1 => ?_
  obtain ⟨z, hz, rfl⟩ := lf_some ho1
  obtain ⟨d, rfl, hz⟩ := one1_some hz
  obtain ⟨vv, rr, ev, h5, h6⟩ := V1.rd R1.sub
  cases (show rr = [] from h6)
  obtain ⟨d', r, v, vs', L1, L2, h0, e2, rfl, h1, h2, _⟩ := V1
  cases h0
  obtain ⟨_, rfl, rfl⟩ := h2
  cases ev
  cases e2
  cases d with
  | lst ds =>
    cases hz
    obtain ⟨a0, xs, rfl, g1, g2, g3⟩ := h1.kids ok hc R1.sub
    exact .inl ⟨a0, xs, rfl, .inl (.inl (.inl g1)), fresh_lst F1 R1 .refl g3 g2⟩
  | dct ks =>
    have hz : (if ks.length ≤ sizeLine then some (D.lst (ks.map fun p => kD p.1)) else none) = some z := hz
    split at hz
    · rename_i hl
      cases hz
      obtain ⟨a0, xs, rfl, g1, g2, g3⟩ := h5
      refine .inr ⟨a0, xs, rfl, unl_dK g1, ?_⟩
      have e : (xs.map fun kv => kV kv.1) = (ks.map (·.1)).map kV := by rw [← fzE_keys g3.e, List.map_map]; rfl
      rw [e]
      exact fresh_lst F1 R1 .refl (by rw [show (ks.map fun p => kD p.1) = (ks.map (·.1)).map kD by rw [List.map_map]; rfl]; exact kDs_fz _) (by rw [List.length_map]; exact hl)
    · cases hz
  | _ => cases hz
def sortV : D → Option D
  | .dct ks => sortD (.lst (ks.map fun p => kD p.1))
  | d => sortD d
theorem strs_kD : ∀ {ks : List Key} {ss : List Str}, strsOf (ks.map kD) = some ss → ks = ss.map Sum.inr
  | [], _, h => by cases h; rfl
  | .inl i :: ks, _, h => by cases h
  | .inr s :: ks, _, h => by
    obtain ⟨t, ht, rfl⟩ := Option.map_eq_some_iff.mp (show (strsOf (ks.map kD)).map (s :: ·) = _ from h)
    rw [strs_kD ht]; rfl
theorem ints_kD : ∀ {ks : List Key} {ss : List Int}, intsOf (ks.map kD) = some ss → ks = ss.map Sum.inl
  | [], _, h => by cases h; rfl
  | .inr i :: ks, _, h => by cases h
  | .inl s :: ks, _, h => by
    obtain ⟨t, ht, rfl⟩ := Option.map_eq_some_iff.mp (show (intsOf (ks.map kD)).map (s :: ·) = _ from h)
    rw [ints_kD ht]; rfl
theorem se_sortedV (hc0 : X.calm = true) (hg : Gl X "sorted") (hm : X.mg "sorted" = none) (ha : PA X [a] (tA G ms lk [k] E XE cs)) (hb : bootBuiltins "sorted" = some (.builtin "sorted") := by decide +kernel) (he : starEach [a] X.env = (false, eval a X.env) :: starEach [] X.env := by rfl) (hpl : (backTo pos (starEach [] X.env)).any (·.1) = false := by rfl) (hK : X.K = G.K := by rfl) :
    PE X (.Call (.Name "sorted" p) [a] [] pos) (tD G ms lk (.own 1) E XE (dN (one1 sortV) cs)) := PE.weak (pe_callB ((cr_sortedS.or cr_sorted).or ((call_sortedD hc0).or (call_sortedDI hc0))) hg hm hb ha (by decide) (by decide) he hpl) fun σ H Q ⟨w, env, o, hH, R, ho, F⟩ => by
  rw [← hH]
  refine tA.bind R ho F (fun _ z => z) fun w1 env1 ds vs L R1 x1 V1 n1 ho1 F1 => ?_
  obtain ⟨z, hz, rfl⟩ := lf_some ho1
  obtain ⟨d, rfl, hz⟩ := one1_some hz
  obtain ⟨v, r, rfl, h1, h2⟩ := V1.rd R1.sub
  cases (show r = [] from h2)
  cases d with
  | lst ds =>
    obtain ⟨a0, xs, rfl, g1, g2, g3⟩ := h1
    have hz : (if ds.length < 64 then ((strsOf ds).map fun ss => D.lst ((sortS ss).map .str)).or ((intsOf ds).map fun ss => D.lst ((sortI ss).map .int)) else none) = some z := hz
    split at hz
    · rename_i h64
      cases e1 : strsOf ds with
      | some ss =>
        rw [e1] at hz
        cases hz
        have ex := strsOf_fz g3 e1
        have el : ss.length = ds.length := by have := g3.len; rw [ex, List.length_map] at this; exact this
        refine .inl (.inl ⟨a0, ss, rfl, by rw [← ex]; exact .inl (.inl (unl_lst g1)), by rw [el]; exact h64, fun ys q hp hs hq => ?_⟩)
        cases sortS_eq hp (sortedS_pw hs)
        exact fresh_lst F1 R1 .refl (fz_strs _) (by rw [List.length_map, hp.length_eq, el]; exact small64 h64) q hq
      | none =>
        rw [e1] at hz
        cases e2 : intsOf ds with
        | none => rw [e2] at hz; cases hz
        | some ss =>
          rw [e2] at hz
          cases hz
          have ex := intsOf_fz g3 e2
          have el : ss.length = ds.length := by have := g3.len; rw [ex, List.length_map] at this; exact this
          refine .inl (.inr ⟨a0, ss, rfl, by rw [← ex]; exact .inl (.inl (unl_lst g1)), by rw [el]; exact h64, fun ys q hp hs hq => ?_⟩)
          cases sortI_eq hp hs
          exact fresh_lst F1 R1 .refl (fz_ints _) (by rw [List.length_map, hp.length_eq, el]; exact small64 h64) q hq
    · cases hz
  | dct ks =>
    obtain ⟨a0, xs, rfl, g1, g2, g3⟩ := h1
    have hz : (if (ks.map fun p => kD p.1).length < 64 then ((strsOf (ks.map fun p => kD p.1)).map fun ss => D.lst ((sortS ss).map .str)).or ((intsOf (ks.map fun p => kD p.1)).map fun ss => D.lst ((sortI ss).map .int)) else none) = some z := hz
    have em : (ks.map fun p => kD p.1) = (ks.map (·.1)).map kD := by rw [List.map_map]; rfl
    rw [em] at hz
    have ek := fzE_keys g3.e
    split at hz
    · rename_i h64
      rw [List.length_map, List.length_map] at h64
      cases e1 : strsOf ((ks.map (·.1)).map kD) with
      | some ss =>
        rw [e1] at hz
        cases hz
        have ex := strs_kD e1
        have el : ss.length = ks.length := by rw [← List.length_map (f := Sum.inr (α := Int)) (as := ss), ← ex, List.length_map]
        refine .inr (.inl ⟨a0, xs, ss, rfl, unl_dK g1, ek.trans ex, by rw [el]; exact h64, fun ys q hp hs hq => ?_⟩)
        cases sortS_eq hp (sortedS_pw hs)
        exact fresh_lst F1 R1 .refl (fz_strs _) (by rw [List.length_map, hp.length_eq, el]; exact small64 h64) q hq
      | none =>
        rw [e1] at hz
        cases e2 : intsOf ((ks.map (·.1)).map kD) with
        | none => rw [e2] at hz; cases hz
        | some ss =>
          rw [e2] at hz
          cases hz
          have ex := ints_kD e2
          have el : ss.length = ks.length := by rw [← List.length_map (f := Sum.inl (β := Str)) (as := ss), ← ex, List.length_map]
          refine .inr (.inr ⟨a0, xs, ss, rfl, unl_dK g1, ek.trans ex, by rw [el]; exact h64, fun ys q hp hs hq => ?_⟩)
          cases sortI_eq hp hs
          exact fresh_lst F1 R1 .refl (fz_ints _) (by rw [List.length_map, hp.length_eq, el]; exact small64 h64) q hq
    · cases hz
  | _ => cases hz
/-- tuple(xs) -/
def gTupV : D → Option D
  | .lst ds => some (.tup ds)
  | _ => none
theorem se_tupV (hg : Gl X "tuple") (hm : X.mg "tuple" = none) (ha : PE X a (tD G ms lk k E XE ca)) (ok : k.okc = true := by rfl) (hc : k.chi = .own 0 := by rfl) (na : starEach [a] X.env = (false, eval a X.env) :: starEach [] X.env := by rfl) :
    PE X (.Call (.Name "tuple" p) [a] [] pos) (tD G ms lk (.own 0) E XE (d1 gTupV ca)) := PE.weak (pe_tupleOf hg hm ha na) fun σ H Q ⟨w, env, o, hH, R, ho, F⟩ => by
  rw [← hH]
  refine tD.bind R ho F (fun _ z => z) fun w1 env1 d v L R1 x1 V1 n1 ho1 F1 => ?_
  obtain ⟨z, hz, rfl⟩ := lf_some ho1
  cases d with
  | lst ds =>
    cases hz
    obtain ⟨a0, xs, rfl, g1, g2, g3⟩ := V1.kids ok hc R1.sub
    refine .inl ⟨a0, xs, rfl, .inl (.inl g1), fun q hq => ?_⟩
    have zq := R1.zn0 hq
    have x2 : Ext E w1 ⟨upd w1.Z q (.tup xs), upd w1.H q (.tup xs), w1.Ls⟩ := Ext.allocT hq zq
    exact F1 ⟨upd w1.Z q (.tup xs), upd w1.H q (.tup xs), w1.Ls⟩ (.ref q) [] (R1.allocT hq) x2 ⟨⟨rfl, q, xs, rfl, upd_same, g2, g3.same x2.zz⟩, List.nodup_nil, fun _ z => by cases z⟩ .nil
  | _ => cases hz
/-- xs.insert(i, y) -/
abbrev rIns : V → List V → Hp → VK → Prop := fun x vs H Q => ∃ (l : Addr) (xs : List V) (i : Int) (y : V), x = .ref l ∧ vs = [.int i, y] ∧ H l = some (.lst xs) ∧ xs.length < sizeLine ∧ 0 ≤ i ∧ i < 2 ^ 63 ∧ Q .non (upd H l (.lst (xs.take i.toNat ++ [y] ++ xs.drop i.toNat)))
def fIns : LM := fun ds as => match as with
  | [.int i, d] => if ds.length < sizeLine ∧ 0 ≤ i ∧ i < 2 ^ 63 then some (.non, ds.take i.toNat ++ [d] ++ ds.drop i.toNat) else none
  | _ => none
theorem FzA.tk {Z : Hp} : ∀ {ds : List D} {xs : List V} (n : Nat), FzA G.K G.CA Z ds xs → FzA G.K G.CA Z (ds.take n) (xs.take n) ∧ FzA G.K G.CA Z (ds.drop n) (xs.drop n)
  | _, _, 0, h => ⟨rfl, h⟩
  | [], _, n + 1, h => by rw [show _ = _ from h]; exact ⟨rfl, rfl⟩
  | d :: ds, _, n + 1, h => by
    obtain ⟨v, r, rfl, h1, h2⟩ := h
    have ⟨h3, h4⟩ := FzA.tk n h2
    exact ⟨⟨v, _, rfl, h1, h3⟩, h4⟩
theorem vm_ins : VM G rIns fIns := fun Z H a ds xs as vs res ds' Q s ha hl hd hv hf => by
  unfold fIns at hf
  split at hf
  · rename_i i d
    split at hf
    · rename_i hz
      cases hf
      obtain ⟨v0, r, rfl, h1, v, r2, rfl, h2, h3⟩ := hv
      cases (show r2 = [] from h3)
      have t := hd.tk i.toNat
      have hn : (ds.take i.toNat ++ [d] ++ ds.drop i.toNat).length = ds.length + 1 := by
        have := congrArg List.length (List.take_append_drop i.toNat ds)
        simp only [List.length_append, List.length_cons, List.length_nil] at this ⊢
        omega
      refine ⟨.non, xs.take i.toNat ++ [v] ++ xs.drop i.toNat, rfl, (t.1.app (show FzA G.K G.CA Z [d] [v] from ⟨v, [], rfl, h2, rfl⟩)).app t.2, by rw [hn]; exact hz.1, fun q => ⟨a, xs, i, v, rfl, by rw [show v0 = _ from h1], ha, by rw [hd.len]; exact hz.1, hz.2.1, hz.2.2, q⟩⟩
    · cases hf
  · cases hf
/-- is, of truth values too -/
def gIsV : D → D → Option D
  | d, .non => some (.bl (isNon d))
  | .bl a, .bl b => some (.bl (decide (a = b)))
  | _, _ => none
def gIsNotV : D → D → Option D
  | d, .non => some (.bl (!isNon d))
  | .bl a, .bl b => some (.bl (!decide (a = b)))
  | _, _ => none
theorem v_isV : V2 G (fun x y H Q => (y = .non ∧ Q (.bl (decide (x = .non))) H) ∨ ∃ a b : Bool, x = .bl a ∧ y = .bl b ∧ Q (.bl (decide (a = b))) H) gIsV := fun H x y dx dy d Q hx hy e => by
  unfold gIsV at e
  split at e
  · cases e; exact ⟨_, rfl, fun q => .inl ⟨hy, by rw [isNon_fz hx]; exact q⟩⟩
  · cases e; exact ⟨_, rfl, fun q => .inr ⟨_, _, hx, hy, q⟩⟩
  · cases e
theorem v_isnotV : V2 G (fun x y H Q => (y = .non ∧ Q (.bl (!decide (x = .non))) H) ∨ ∃ a b : Bool, x = .bl a ∧ y = .bl b ∧ Q (.bl (!decide (a = b))) H) gIsNotV := fun H x y dx dy d Q hx hy e => by
  unfold gIsNotV at e
  split at e
  · cases e; exact ⟨_, rfl, fun q => .inl ⟨hy, by rw [isNon_fz hx]; exact q⟩⟩
  · cases e; exact ⟨_, rfl, fun q => .inr ⟨_, _, hx, hy, q⟩⟩
  · cases e
/-- x[j] = a known thing -/
def stoV (i u : Nat) (x : D) : DS := fun env => match env[u]? with
  | some (some j) => match env[i]? with
    | some (some c) => match stoD c j x with
      | some c' => some (.nx (env.set i (some c')))
      | none => none
    | _ => none
  | _ => none
/-- x[u], x[v] = two things -/
def sSwp (i u v : Nat) (cs : DA) : DS := bndS cs fun ds => match ds with
  | [x, y] => seq (stoV i u x) (stoV i v y)
  | _ => fun _ => none
theorem stoV_of {w w1 : Wd} {env1 : Ev} {σ : L2.St} {i u : Nat} {x : D} {xv : V} {o : Fl} (R1 : Rel G ms lk w1 env1 σ) (x1 : Ext E w w1) (hE : i ∈ E) (hm : md ms i = 1) (hl : i ∉ lk) (hmu : md ms u = 0) (ho : stoV i u x env1 = some o) (hv : Fz G.K G.CA w1.Z x xv) :
    ∃ jv ov H' env2 w2, σ[i]? = some (some ov) ∧ σ[u]? = some (some jv) ∧ StoV w1.H ov jv xv H' ∧ o = .nx env2 ∧ w2.H = H' ∧ w2.Z = w1.Z ∧ Rel G ms lk w2 env2 σ ∧ Ext E w w2 := by
  unfold stoV at ho
  split at ho
  · rename_i j hj
    split at ho
    · rename_i c hc
      split at ho
      · rename_i c' hs
        cases ho
        obtain ⟨jv, h1, h2⟩ := R1.slot u j hj
        rw [hmu] at h2
        obtain ⟨ov, H', q1, q2, w3, q3, q4, q5, q6⟩ := sto_slot (w := w) (E := E) R1 x1 hE hm hl hc hs (h2.2.same R1.sub) hv
        exact ⟨jv, ov, H', _, w3, q1, h1, q2, rfl, q3, q4, q5, q6⟩
      · cases ho
    · cases ho
  · cases ho
theorem ss_swp {i u v : Nat} {x y z : Str} {px py px2 pz : Pos} {kt k2 pt pt2} (hc : X.calm = true) (hu : X.A.units + 1 < cLine) (hx : PE X (.Name x px) (tVar i)) (hx2 : PE X (.Name x px2) (tVar i)) (hy : PE X (.Name y py) (tVar u)) (hz : PE X (.Name z pz) (tVar v))
    (ha : PA X [a, b] (tA G ms lk [.own 0, .own 0] Ea XE cs)) (hm : md ms i = 1 := by rfl) (hmu : md ms u = 0 := by rfl) (hmv : md ms v = 0 := by rfl) (hl : i ∉ lk := by decide)
    (h1 : ∀ v, assign (.Subscript (.Name x px) (.Name y py) p1) X.env v = (do
      let ov ← holding [v] (eval (.Name x px) X.env)
      let iv ← holding [v, ov] (eval (.Name y py) X.env)
      standAt p1
      holding [v, ov, iv] (setItem ov iv v)
      release [v, ov, iv] []) := by intro _; rfl)
    (h2 : ∀ v, assign (.Subscript (.Name x px2) (.Name z pz) p2) X.env v = (do
      let ov ← holding [v] (eval (.Name x px2) X.env)
      let iv ← holding [v, ov] (eval (.Name z pz) X.env)
      standAt p2
      holding [v, ov, iv] (setItem ov iv v)
      release [v, ov, iv] []) := by intro _; rfl)
    (hs1 : (assignEach [.Subscript (.Name x px) (.Name y py) p1, .Subscript (.Name x px2) (.Name z pz) p2] X.env).map (·.2) = assign (.Subscript (.Name x px) (.Name y py) p1) X.env :: (assignEach [.Subscript (.Name x px2) (.Name z pz) p2] X.env).map (·.2) := by rfl)
    (hs2 : (assignEach [.Subscript (.Name x px2) (.Name z pz) p2] X.env).map (·.2) = assign (.Subscript (.Name x px2) (.Name z pz) p2) X.env :: (assignEach [] X.env).map (·.2) := by rfl)
    (hn : (assignEach [.Subscript (.Name x px) (.Name y py) p1, .Subscript (.Name x px2) (.Name z pz) p2] X.env).length = 2 := by rfl) (hst : (assignEach [.Subscript (.Name x px) (.Name y py) p1, .Subscript (.Name x px2) (.Name z pz) p2] X.env).findIdx? (·.1) = none := by rfl)
    (hs : swapsWithSole [.Tuple [.Subscript (.Name x px) (.Name y py) p1, .Subscript (.Name x px2) (.Name z pz) p2] kt pt] (.Tuple [a, b] k2 pt2) pos.line X.env = pure false := by rfl) (hw : swappedStores [.Tuple [.Subscript (.Name x px) (.Name y py) p1, .Subscript (.Name x px2) (.Name z pz) p2] kt pt] (.Tuple [a, b] k2 pt2) X.env = pure none := by rfl)
    (h3 : (assignEach [.Tuple [.Subscript (.Name x px) (.Name y py) p1, .Subscript (.Name x px2) (.Name z pz) p2] kt pt] X.env).map (·.2) = [assign (.Tuple [.Subscript (.Name x px) (.Name y py) p1, .Subscript (.Name x px2) (.Name z pz) p2] kt pt) X.env] := by rfl) :
    PS X (.Assign [.Tuple [.Subscript (.Name x px) (.Name y py) p1, .Subscript (.Name x px2) (.Name z pz) p2] kt pt] (.Tuple [a, b] k2 pt2) pos) (tS G ms lk ms (i :: Ea) R XE (sSwp i u v cs)) :=
  PS.weak (ps_asg (pe_tup ha) (pg_tup hc (pgs_cons (pg_sub hx hy (set_V hu) h1) (pgs_cons (pg_sub hx2 hz (set_V hu) h2) pgs_nil hs2) hs1) hn hst) hs hw h3) fun Dn σ H ⟨w, env, o, hH, Rl, ho, F⟩ => by
  rw [← hH]
  unfold sSwp bndS at ho
  have e1 : ∀ j ∈ Ea, j ∈ i :: Ea := fun j hj => by simp [hj]
  cases e : cs env with
  | none => rw [e] at ho; cases ho
  | some o1 =>
    rw [e] at ho
    refine ⟨w, env, o1, rfl, Rl, e, ?_⟩
    cases o1 with
    | ex x e1' => cases ho; exact fun w' p R' x' P => F w' p σ (.inr trivial) (x'.mono e1) P
    | ok ds env1 =>
      intro w1 vs L R1 x1 V1 n1
      dsimp only at ho
      split at ho
      · rename_i d1 d2
        have fz := VA.fz V1 (by simp)
        obtain ⟨v1, r1, rfl, f1, v2, r2, rfl, f2, f3⟩ := fz
        cases (show r2 = [] from f3)
        refine ⟨by show 2 ≤ sizeLine; decide, fun q hq => ?_⟩
        have zq := R1.zn0 hq
        have R2 := R1.allocT (xs := [v1, v2]) hq
        have x2 : Ext Ea w1 ⟨upd w1.Z q (.tup [v1, v2]), upd w1.H q (.tup [v1, v2]), w1.Ls⟩ := Ext.allocT hq zq
        have x12 := (x1.trans x2).mono e1
        unfold seq at ho
        cases eo : stoV i u d1 env1 with
        | none => rw [eo] at ho; cases ho
        | some o2 =>
          rw [eo] at ho
          obtain ⟨jv, ov, H', env2, w3, a1, a2, a3, rfl, a4, a5, a6, a7⟩ := stoV_of R2 x12 List.mem_cons_self hm hl hmu eo (f1.same x2.zz)
          obtain ⟨jv', ov', H2, env3, w4, b1, b2, b3, rfl, b4, b5, b6, b7⟩ := stoV_of a6 a7 List.mem_cons_self hm hl hmv ho (by rw [a5]; exact f2.same x2.zz)
          refine ⟨q, [v1, v2], rfl, .inl (.inl upd_same), rfl, v1, [v2], rfl, ov, a1, jv, a2, H', a3, ?_⟩
          refine ⟨v2, [], rfl, ov', b1, jv', b2, H2, by rw [← a4]; exact b3, rfl, ?_⟩
          rw [← b4]
          exact F w4 σ b6 b7
      · cases ho
end
end PD
namespace PD
open PySem PySem.Spec PyProof.Rows L2 GF
/-! ### list("..."), equal dicts, xs.count(text) -/
section
variable {X : Cx} {K : PySem.W.Frag} {G : Gc} {ms lk ms' : List Nat} {k ka kb kc : Kd} {ks : List Kd} {bs E E1 Ea Eb Ec : List Nat} {R : Rt} {XE : XK} {pos p apos cpos tpos p1 p2 : Pos} {a b b2 e tg iter : Expr} {es elts : List Expr} {ca cb cc : DE} {cs : DA} {c : DS} {body : List Stmt} {Dn : Ends}
theorem call_listS (hc : X.calm = true) : CallR X (.type "list") (fun xs H Q => ∃ x : Str, xs = [.str x] ∧ x.length ≤ sizeLine ∧ ∀ p, H p = none → Q (.ref p) (upd H p (.lst (x.cps.toList.map fun c => V.str ⟨#[c]⟩)))) := by
  intro pins s σ H xs us Q I r h
  obtain ⟨x, rfl, hx, q⟩ := h
  obtain ⟨u, rfl, t, rfl⟩ := vals1 r
  refine call_list_str (I.ok.hd hc) x t (fun h' tk acc' c' hk hS hacc => ?_) (hn := hx)
  have el : acc'.toList.length = x.cps.toList.length := by rw [Array.length_toList, hacc.1, Array.length_toList]
  refine ⟨.ref s.heap.objs.size, upd H s.heap.objs.size (.lst (x.cps.toList.map fun c => V.str ⟨#[c]⟩)), I.laid hk (Nat.le_refl _) (show ObjOk X.prog X.w _ _ _ (.lst _) from ⟨?_, acc'.toList, c', ?_, ?_⟩), rfl, q _ (I.hok.fresh (Nat.le_refl _))⟩
  · rw [List.length_map, Array.length_toList]; exact hx
  · refine vals_of_at (by rw [List.length_map, el]) fun j y w h1 h2 => ?_
    obtain ⟨c, u, e1, e2⟩ := hacc.2 j w (by rw [← Array.getElem?_toList]; exact h2)
    rw [List.getElem?_map, Array.getElem?_toList, e1] at h1
    cases h1
    exact ⟨u, e2⟩
  · rw [Array.toArray_toList]; exact hS
def gListW : List D → Option D := one1 fun d => match d with
  | .str s => if s.length ≤ sizeLine then some (.lst (s.cps.toList.map chr1)) else none
  | d => gListV [d]
theorem fz_chrs {Z : Hp} : ∀ cs : List Nat, FzA G.K G.CA Z (cs.map chr1) (cs.map fun c => V.str ⟨#[c]⟩)
  | [] => rfl
  | c :: cs => ⟨_, _, rfl, rfl, fz_chrs cs⟩
theorem se_listW (hc0 : X.calm = true) (hg : Gl X "list") (hm : X.mg "list" = none) (ha : PA X [a] (tA G ms lk [k] E XE cs)) (ok : k.okc = true := by rfl) (hc : k.chi = .own 0 := by rfl) (hb : bootBuiltins "list" = some (.type "list") := by decide +kernel) (he : starEach [a] X.env = (false, eval a X.env) :: starEach [] X.env := by rfl) (hpl : (backTo pos (starEach [] X.env)).any (·.1) = false := by rfl) (hK : X.K = G.K := by rfl) :
    PE X (.Call (.Name "list" p) [a] [] pos) (tD G ms lk (.own 1) E XE (dN gListW cs)) := PE.weak (PE.or (se_listV hc0 hg hm ha ok hc hb he hpl hK) (pe_callTy (call_listS hc0) hg hm hb ha (by decide) (by decide) he hpl)) fun σ H Q ⟨w, env, o, hH, R, ho, F⟩ => by
  unfold dN bnd at ho
  split at ho
  · rename_i ds e1 he1
    obtain ⟨z, hz, rfl⟩ := lf_some ho
    obtain ⟨d, rfl, hz⟩ := one1_some hz
    cases d with
    | str s0 =>
      right
      rw [← hH]
      refine ⟨w, env, .ok [.str s0] e1, rfl, R, he1, fun w1 vs L R1 x1 V1 n1 => ?_⟩
      obtain ⟨v, r, rfl, h1, h2⟩ := V1.rd R1.sub
      cases (show r = [] from h2)
      cases (show v = V.str s0 from h1)
      have hz : (if s0.length ≤ sizeLine then some (D.lst (s0.cps.toList.map chr1)) else none) = some z := hz
      split at hz
      · rename_i hl
        cases hz
        exact ⟨s0, rfl, hl, fresh_lst (F.step (x1.mono fun _ z => z)) R1 .refl (fz_chrs _) (by rw [List.length_map, Array.length_toList]; exact hl)⟩
      · cases hz
    | _ => exact .inl ⟨w, env, .ok z e1, hH, R, by unfold dN bnd; rw [he1]; exact congrArg (fun o => lf o e1) hz, F⟩
  · rename_i x e1 he1
    cases ho
    exact .inl ⟨w, env, .ex x e1, hH, R, by unfold dN bnd; rw [he1], F⟩
  · cases ho
/-! dicts that are equal -/
def sameF : D → D → Bool
  | .str a, .str b => a == b
  | .int a, .int b => a == b
  | .bl a, .bl b => a == b
  | .non, .non => true
  | _, _ => false
def sameL : D → D → Bool
  | .lst xs, .lst ys => xs.length == ys.length && (xs.zip ys).all fun q => sameF q.1 q.2
  | d, e => sameF d e
def sameD : D → D → Bool
  | .dct ks, .dct ls => ks.length == ls.length && ks.all fun p => match valD ls p.1 with
    | some u => sameL p.2 u
    | none => false
  | _, _ => false
theorem sameF_of {Z : Hp} {d e : D} {x y : V} (h : sameF d e = true) (h1 : Fz G.K G.CA Z d x) (h2 : Fz G.K G.CA Z e y) : x = y ∧ flatB x = true := by
  unfold sameF at h
  split at h
  · cases (show x = _ from h1); cases (show y = _ from h2)
    rw [eq_of_beq h]; exact ⟨rfl, rfl⟩
  · cases (show x = _ from h1); cases (show y = _ from h2)
    rw [eq_of_beq h]; exact ⟨rfl, rfl⟩
  · cases (show x = _ from h1); cases (show y = _ from h2)
    rw [eq_of_beq h]; exact ⟨rfl, rfl⟩
  · cases (show x = _ from h1); cases (show y = _ from h2)
    exact ⟨rfl, rfl⟩
  · cases h
theorem samePair {H : Hp} : ∀ {ds es : List D} {xs ys : List V}, ds.length = es.length → ((ds.zip es).all fun q => sameF q.1 q.2) = true → FzA G.K G.CA (unl H) ds xs → FzA G.K G.CA (unl H) es ys → Paired (EqV G.K H 1) xs ys
  | [], [], _, _, _, _, h1, h2 => by
    cases (show _ = _ from h1); cases (show _ = _ from h2)
    exact .nil
  | [], _ :: _, _, _, h, _, _, _ => by cases h
  | _ :: _, [], _, _, h, _, _, _ => by cases h
  | d :: ds, e :: es, _, _, hl, h, h1, h2 => by
    obtain ⟨x, xs, rfl, f1, f2⟩ := h1
    obtain ⟨y, ys, rfl, g1, g2⟩ := h2
    rw [List.zip_cons_cons, List.all_cons, Bool.and_eq_true] at h
    exact .cons (.inl (sameF_of h.1 f1 g1)) (samePair (by simpa using hl) h.2 f2 g2)
theorem sameL_of {H : Hp} {d e : D} {x y : V} (h : sameL d e = true) (h1 : Fz G.K G.CA (unl H) d x) (h2 : Fz G.K G.CA (unl H) e y) : EqV G.K H 2 x y := by
  unfold sameL at h
  split at h
  · rename_i ds es
    obtain ⟨a, xs, rfl, a1, _, a3⟩ := h1
    obtain ⟨b, ys, rfl, b1, _, b3⟩ := h2
    rw [Bool.and_eq_true] at h
    exact .inr (.inr (.inl ⟨a, b, xs, ys, rfl, rfl, .inl (.inl (unl_lst a1)), .inl (.inl (unl_lst b1)), samePair (eq_of_beq h.1) h.2 a3 b3⟩))
  · exact .inl (sameF_of h h1 h2)
theorem fzE_val {Z : Hp} {ks : List (Key × D)} {xs : List (Key × V)} (h : FzE G.K G.CA Z ks xs) {k : Key} {d : D} (e : valD ks k = some d) : ∃ v, valV xs k = some v ∧ Fz G.K G.CA Z d v := by
  induction ks generalizing xs with
  | nil => cases e
  | cons p ks ih =>
    obtain ⟨k0, d0⟩ := p
    obtain ⟨v, r, rfl, h1, h2⟩ := h
    by_cases z : k0 = k
    · subst z
      have : d0 = d := by simpa [valD] using e
      subst this
      exact ⟨v, by simp [valV], h1⟩
    · have e' : valD ks k = some d := by simpa [valD, z] using e
      obtain ⟨w, w1, w2⟩ := ih h2 e'
      exact ⟨w, by simpa [valV, z] using w1, w2⟩
theorem same_hits {H : Hp} {ls : List (Key × D)} {ys : List (Key × V)} (hy : FzE G.K G.CA (unl H) ls ys) : ∀ {ks : List (Key × D)} {xs : List (Key × V)}, FzE G.K G.CA (unl H) ks xs → (ks.all fun p => match valD ls p.1 with
    | some u => sameL p.2 u
    | none => false) = true → ∀ p ∈ xs, ∃ u, valV ys p.1 = some u ∧ EqV G.K H 2 p.2 u
  | [], _, hx, _, p, hp => by cases (show _ = _ from hx); cases hp
  | (k, d) :: ks, _, hx, h, p, hp => by
    obtain ⟨v, r, rfl, h1, h2⟩ := hx
    rw [List.all_cons, Bool.and_eq_true] at h
    rcases List.mem_cons.mp hp with rfl | hp
    · have h3 := h.1
      dsimp only at h3
      split at h3
      · rename_i u hu
        obtain ⟨w, w1, w2⟩ := fzE_val hy hu
        exact ⟨w, w1, sameL_of h3 h1 w2⟩
      · cases h3
    · exact same_hits hy h2 h.2 p hp
/-- two dicts of the same keys, their values equal -/
def rEqDD (K : PySem.W.Frag) (b : Bool) : R2 := fun x y H Q => ∃ p q ks ls, x = .ref p ∧ y = .ref q ∧ Rd H p (.dK ks) ∧ Rd H q (.dK ls) ∧ ks.length = ls.length ∧ (∀ r ∈ ks, ∃ u, valV ls r.1 = some u ∧ EqV K H 2 r.2 u) ∧ Q (.bl b) H
theorem op_eqDD (hu : X.A.units + 64 < cLine) : OpR X (compareOp .Eq) (rEqDD X.K true) := by
  intro pins s σ H x y v u Q I rx ry ⟨p, q, ks, ls, ex, ey, hp, hq, hl, hh, hQ⟩
  subst ex; subst ey
  obtain rfl : v = Value.ref p := rx
  obtain rfl : u = Value.ref q := ry
  obtain ⟨_, na, va, ra, da⟩ := dk_rd I.hok hp
  obtain ⟨_, nb, vb, rb, db⟩ := dk_rd I.hok hq
  refine PySem.W.rcP_dicts (knd := mixKind X.prog X.w) (r := true) na nb da db (by omega) (fun _ => hits_run (eqV_run I 2 X.A.in1 (by show X.A.units + 1 + 2 < cLine; omega)) rb ra hh) _ _ ?_
  have e : va.length = vb.length := by rw [← ra.length, ← rb.length]; exact hl
  exact ⟨.bl true, H, I, by rw [e]; simp; rfl, hQ⟩
theorem op_neDD (hu : X.A.units + 64 < cLine) : OpR X (compareOp .NotEq) (rEqDD X.K false) := by
  intro pins s σ H x y v u Q I rx ry ⟨p, q, ks, ls, ex, ey, hp, hq, hl, hh, hQ⟩
  subst ex; subst ey
  obtain rfl : v = Value.ref p := rx
  obtain rfl : u = Value.ref q := ry
  obtain ⟨_, na, va, ra, da⟩ := dk_rd I.hok hp
  obtain ⟨_, nb, vb, rb, db⟩ := dk_rd I.hok hq
  have e : va.length = vb.length := by rw [← ra.length, ← rb.length]; exact hl
  have he : EP X pins σ Q (.bool (!(va.length == vb.length && true))) s := ⟨.bl false, H, I, by rw [e]; simp; rfl, hQ⟩
  have hits := hits_run (eqV_run I 2 X.A.in1 (by show X.A.units + 1 + 2 < cLine; omega)) rb ra hh
  refine wpAny_richCompare_same_room (op := .NotEq) da.typeIs db.typeIs PySem.F.slot_dict_ne (wpAny_call_entry PySem.F.slot_dict_ne da.typeIs PySem.F.entry_dict_ne ?go (PySem.F.args_dict_ne_2 _ _)) (by omega)
  case go =>
    refine wpAny_bind (m := Builtin.Dict.dictSlotArgs "__ne__" ⟨[Value.ref p, .ref q], []⟩) (wpAny_bind (wpAny_notOrdered_dict da.typeIs (wpAny_pure ?_)))
    refine wpAny_bind (wpAny_isInstance (T := "dict") db.typeIs PySem.F.sub_dict_dict ?_)
    rw [if_neg (by simp)]
    refine wpAny_bind (wpAny_pure (wpAny_bind (wpAny_pure (wpAny_bind (PySem.W.samePairsP na nb da db (fun _ => hits) ?_)))))
    exact wpAny_pure ⟨_, rfl, (fun x => by cases x), (by simpa using he)⟩
def gEqX (d e : D) : Option D := (gEq d e).or (if sameD d e = true then some (.bl true) else none)
def gNeX (d e : D) : Option D := (gNe d e).or (if sameD d e = true then some (.bl false) else none)
theorem same_rd {H : Hp} {d e : D} {x y : V} {b : Bool} {Q : VK} (h : sameD d e = true) (h1 : Fz G.K G.CA (unl H) d x) (h2 : Fz G.K G.CA (unl H) e y) (q : Q (.bl b) H) : rEqDD G.K b x y H Q := by
  unfold sameD at h
  split at h
  · rename_i ks ls
    rw [Bool.and_eq_true] at h
    obtain ⟨a, xs, rfl, a1, _, a3⟩ := h1
    obtain ⟨c, ys, rfl, b1, _, b3⟩ := h2
    exact ⟨a, c, xs, ys, rfl, rfl, unl_dK a1, unl_dK b1, by rw [← List.length_map (f := (·.1)) (as := xs), fzE_keys a3.e, ← List.length_map (f := (·.1)) (as := ys), fzE_keys b3.e, List.length_map, List.length_map]; exact eq_of_beq h.1, same_hits b3.e a3.e h.2, q⟩
  · cases h
theorem v_eqX : V2 G (fun x y H Q => rEqV G.K x y H Q ∨ rEqDD G.K true x y H Q) gEqX := fun H x y dx dy d Q hx hy e => by
  unfold gEqX at e
  cases h : gEq dx dy with
  | some z =>
    rw [h] at e
    cases e
    obtain ⟨v, h1, h2⟩ := v_eq H x y dx dy _ Q hx hy h
    exact ⟨v, h1, fun q => .inl (h2 q)⟩
  | none =>
    rw [h] at e
    have e : (if sameD dx dy = true then some (D.bl true) else none) = some d := e
    split at e
    · rename_i hs
      cases e
      exact ⟨.bl true, rfl, fun q => .inr (same_rd hs hx hy q)⟩
    · cases e
theorem v_neX : V2 G (fun x y H Q => rNeV G.K x y H Q ∨ rEqDD G.K false x y H Q) gNeX := fun H x y dx dy d Q hx hy e => by
  unfold gNeX at e
  cases h : gNe dx dy with
  | some z =>
    rw [h] at e
    cases e
    obtain ⟨v, h1, h2⟩ := v_ne H x y dx dy _ Q hx hy h
    exact ⟨v, h1, fun q => .inl (h2 q)⟩
  | none =>
    rw [h] at e
    have e : (if sameD dx dy = true then some (D.bl false) else none) = some d := e
    split at e
    · rename_i hs
      cases e
      exact ⟨.bl false, rfl, fun q => .inr (same_rd hs hx hy q)⟩
    · cases e
/-! xs.count(text) -/
abbrev rCnt (K : PySem.W.Frag) : V → List V → Hp → VK → Prop := fun x vs H Q => ∃ (l : Addr) (ss : List Str) (z : Str), x = .ref l ∧ vs = [.str z] ∧ SqL K H l (ss.map V.str) ∧ Q (.int (ss.count z : Nat)) H
theorem countIn_strs (z : Str) : ∀ ss : List Str, countIn (.str z) (ss.map PyData.str) = ((ss.count z : Nat) : Int)
  | [] => rfl
  | s :: ss => by
    show (if same (.str s) (.str z) then (1 : Int) else 0) + countIn (.str z) (ss.map PyData.str) = _
    rw [countIn_strs z ss, List.count_cons]
    by_cases h : s = z
    · subst h
      have : same (.str s) (.str s) = true := by simp [same]
      rw [if_pos this]; simp; omega
    · have : same (.str s) (.str z) = false := by simp [same, h]
      rw [this]; simp [h]
theorem vals_strsAre : ∀ (ys : List Str) {us : List Value}, Vals (ys.map V.str) us → StrsAre us ys
  | [], _, h => by cases h; exact .nil
  | y :: ys, _, h => by
    cases h with
    | cons r t =>
      obtain ⟨k, rfl⟩ := r
      exact .cons y k (vals_strsAre ys t)
theorem mt_cntS : MtR X "list.count" (rCnt X.K) := by
  intro pins s σ H x vs v us Q I rx rv h
  obtain ⟨l, ss, z, ex, ev, hl, q⟩ := h
  subst ex; subst ev
  obtain rfl : v = Value.ref l := rx
  obtain ⟨u, rfl, t, rfl⟩ := vals1 rv
  obtain ⟨its, r, pl, hz⟩ := I.list hl
  refine count_list_strs pl.isList (vals_strsAre ss r) ?_
  rw [countIn_strs]
  exact ⟨.int (ss.count z : Nat), H, I.tok _, ⟨_, rfl⟩, q⟩
def gCount : D → List D → Option D
  | .lst ds, [.str z] => (strsOf ds).map fun ss => .int (ss.count z : Nat)
  | _, _ => none
theorem v_count : VR G (rCnt G.K) gCount := fun H x vs dx ds d Q hx hv h => by
  unfold gCount at h
  split at h
  · rename_i es z
    obtain ⟨ss, h1, rfl⟩ := Option.map_eq_some_iff.mp h
    obtain ⟨a, xs, rfl, a1, _, a3⟩ := hx
    obtain ⟨v, r, rfl, v1, v2⟩ := hv
    cases (show r = [] from v2)
    cases (show v = V.str z from v1)
    exact ⟨_, rfl, fun q => ⟨a, ss, z, rfl, rfl, by rw [← strsOf_fz a3 h1]; exact .inl (.inl (unl_lst a1)), q⟩⟩
  · cases h
/-! a method without arguments of a list in a slot's thing -/
theorem se_lmP0 {i : Nat} {x m : Str} {px : Pos} {id : String} {r : V → List V → Hp → VK → Prop} {f : LM} (slot : Slot "list" m id) (hty : typeOf (.builtin id) = pure (.type "method_descriptor")) (hr : MtR X id r) (hv : VM G r f) (hu : X.A.units + 1 < cLine) (hx : PE X (.Name x px) (tVar i)) (hb : PE X b (tD G ms lk kb Eb XE cb)) (hkb : kb = .own 0 := by rfl)
    (hsub : ∀ o i, subscripted b false o i = operate [o, i] (getItem o i) := by exact fun _ _ => rfl) (hm : md ms i = 2 := by rfl) (hl : i ∉ lk := by decide) (hEb : i ∉ Eb := by decide) (hK : X.K = G.K := by rfl)
    (hbase : attributeBase (.Subscript (.Name x px) b pos) m X.env (eval (.Subscript (.Name x px) b pos) X.env) = eval (.Subscript (.Name x px) b pos) X.env := by rfl)
    (hline : (apos.endLine == cpos.line) = true := by rfl) :
    PE X (.Call (.Attribute (.Subscript (.Name x px) b pos) m apos) [] [] cpos) (tD G ms lk (.own 0) (i :: Eb) XE (dLmP i cb f nilA)) := by
  subst hkb
  exact PE.weak (PE.or (pe_bm0 PySem.F.plainAttrs_list slot hty hr (pe_ix ix_seq hx hb hsub) hbase hline) (pe_bm0 PySem.F.plainAttrs_list slot hty hr (pe_dget hu hx hb hsub) hbase hline)) fun σ H Q ⟨w, env, o, hH, R, ho, F⟩ => by
    rw [← hH]
    have lb : ∀ j ∈ Eb, j ∈ i :: Eb := fun j hj => List.mem_cons_of_mem _ hj
    unfold dLmP at ho
    split at ho
    rotate_left
    · cases ho
    rename_i c0 hi0
    obtain ⟨v0, hv0, _⟩ := R.slot i c0 hi0
    have main : ∀ (w0 : Wd) (env0 : Ev) (j : D) (jv : V) (L0 : List Addr) , Rel G ms lk w0 env0 σ → Ext Eb w w0 → ValR G w0 j jv L0 (.own 0) → ∀ o, (match env0[i]? with
      | some (some c) => if isDic c = isDic c0 then (match chD c j with
        | some _ => bnd nilA (fun as env1 => match env1[i]? with
          | some (some c1) => match chD c1 j with
            | some ds => match f ds as with
              | some (res, ds') => match stD c1 j ds' with
                | some c2 => some (Out.ok res (env1.set i (some c2)))
                | none => none
              | none => none
            | none => none
          | _ => none) env0
        | none => none) else none
      | _ => none) = some o → Fin G ms lk (.own 0) (i :: Eb) XE w σ Q o → ∃ a a1 ys, v0 = .ref a ∧ Loc (isDic c0) w0.H a jv a1 ∧ w0.H a1 = some (.lst ys) ∧
          r (.ref a1) [] w0.H Q := by
      intro w0 env0 j jv L0 R0 x0 V0 o ho F
      split at ho
      · rename_i c hi
        split at ho
        · rename_i hdic
          split at ho
          · rename_i ds hc
            obtain ⟨a', a1, ys, h1, h2, h3, h4, h5, h6, h7, _⟩ := child_at R0 hm hl hi hc (V0.rd R0.sub)
            rw [hv0] at h1
            injection h1 with h1
            injection h1 with h1
            refine ⟨a', a1, ys, h1, by rw [← hdic]; exact h4, h5, ?_⟩
            exact lmp_end (Ea := Eb) (w0 := w0) (as := []) (vs := []) hv hm hl R0 (x0.mono lb) (show FzA G.K G.CA w0.Z [] [] from rfl) (V0.rd R0.sub) (by rw [hv0, h1]) h4 rfl ho F
          · cases ho
        · cases ho
      · cases ho
    by_cases hd0 : isDic c0 = true
    · refine .inr ⟨v0, hv0, ?_⟩
      refine tD.bindG (FF := fun w' o => Fin G ms lk (.own 0) (i :: Eb) XE w σ Q o) R ho F (fun w1 x F => F) (fun x e eo F w' p R' x' P => by subst eo; exact F w' p R' (x'.mono lb) P) fun w0 env0 j jv L0 R0 x0 V0 n0 ho0 F0 => ?_
      obtain ⟨a', a1, ys, rfl, h2, h3, h4⟩ := main w0 env0 j jv L0 R0 x0 V0 o ho0 F0
      rcases h2 with ⟨_, kvs, k0, g1, g2, g3⟩ | ⟨z, _⟩
      · exact ⟨a', .ref a1, rfl, .inl ⟨kvs, k0, .inl g1, g2, g3.symm⟩, by rw [hK]; exact .inl ⟨rfl, ys, .inl (.inl h3)⟩, h4⟩
      · rw [hd0] at z; cases z
    · refine .inl ⟨v0, hv0, ?_⟩
      refine tD.bindG (FF := fun w' o => Fin G ms lk (.own 0) (i :: Eb) XE w σ Q o) R ho F (fun w1 x F => F) (fun x e eo F w' p R' x' P => by subst eo; exact F w' p R' (x'.mono lb) P) fun w0 env0 j jv L0 R0 x0 V0 n0 ho0 F0 => ?_
      obtain ⟨a', a1, ys, rfl, h2, h3, h4⟩ := main w0 env0 j jv L0 R0 x0 V0 o ho0 F0
      rcases h2 with ⟨z, _⟩ | ⟨_, xs, n, g1, g2, g3⟩
      · exact absurd z hd0
      · rw [hK]
        exact .inl ⟨a', xs, n, .ref a1, rfl, g2, .inl (.inl g1), g3, .inl ⟨rfl, ys, .inl (.inl h3)⟩, h4⟩
/-! x[k] = e, the slot owns two levels, the key is new -/
def sSto2 (i : Nat) (av aj : DE) : DS := bndS av fun d => have_ i (bndS aj fun j env => match env[i]? with
  | some (some (.dct ks)) => match keyOf j with
    | some k => if ks.length < sizeLine ∧ (ks.any fun p => decide (p.1 = k)) = false then some (.nx (env.set i (some (.dct (ks ++ [(k, d)]))))) else none
    | none => none
  | _ => none)
theorem alKR_keys {κ : Type} {Rr : D → V → List Addr → Prop} : ∀ {ks : List (κ × D)} {xs : List (κ × V)} {L : List Addr}, Al3 (KR Rr) ks xs L → xs.map (·.1) = ks.map (·.1)
  | [], _, _, h => by rw [h.1]; rfl
  | (k, d) :: ks, _, _, h => by
    obtain ⟨q, r, L1, L2, e1, _, h1, h2⟩ := h
    rw [e1, List.map_cons, List.map_cons, alKR_keys h2, ← h1.1]
theorem putK_new {κ : Type} [DecidableEq κ] {xs : List (κ × V)} {k : κ} {v : V} (h : k ∉ xs.map (·.1)) : putK xs k v = xs ++ [(k, v)] := by
  unfold putK
  rw [if_neg]
  intro z
  obtain ⟨q, hq, e⟩ := List.any_eq_true.mp z
  exact h (List.mem_map.mpr ⟨q, hq, of_decide_eq_true e⟩)
theorem ss_sto2 {i : Nat} {x : Str} {px pos' : Pos} (hu : X.A.units + 1 < cLine) (hx : PE X (.Name x px) (tVar i)) (hb : PE X b (tD G ms lk kb Eb XE cb)) (ha : PE X a (tD G ms lk (.own 1) Ea XE ca)) (hm : md ms i = 2 := by rfl) (hl : i ∉ lk := by decide)
    (h1 : ∀ v, assign (.Subscript (.Name x px) b pos') X.env v = (do
      let ov ← holding [v] (eval (.Name x px) X.env)
      let iv ← holding [v, ov] (eval b X.env)
      standAt pos'
      holding [v, ov, iv] (setItem ov iv v)
      release [v, ov, iv] []) := by intro _; rfl) (hs : swapsWithSole [.Subscript (.Name x px) b pos'] a pos.line X.env = pure false := by rfl) (hw : swappedStores [.Subscript (.Name x px) b pos'] a X.env = pure none := by rfl) :
    PS X (.Assign [.Subscript (.Name x px) b pos'] a pos) (tS G ms lk ms (i :: (Ea ++ Eb)) R XE (sSto2 i ca cb)) := PS.weak (ps_asg ha (pg_sub hx hb (set_V hu) h1) hs hw) fun Dn σ H ⟨w, env, o, hH, Rl, ho, F⟩ => by
  rw [← hH]
  have e1 : ∀ j ∈ Ea, j ∈ i :: (Ea ++ Eb) := fun j hj => by simp [hj]
  have e2 : ∀ j ∈ Eb, j ∈ i :: (Ea ++ Eb) := fun j hj => by simp [hj]
  refine tD.bindS Rl ho F e1 fun w1 env1 d v L R1 x1 V1 n1 ho1 F1 => ?_
  unfold have_ at ho1
  split at ho1
  · rename_i c0 hc0
    obtain ⟨u, hu1, _⟩ := R1.slot i c0 hc0
    refine ⟨u, hu1, ?_⟩
    unfold bndS at ho1
    split at ho1
    · rename_i j env2 he
      refine ⟨w1, env1, _, rfl, R1, he, fun w2 jv L2 R2 x2 V2' n2 => ?_⟩
      dsimp only at ho1
      split at ho1
      · rename_i ks hc
        split at ho1
        · rename_i k hk
          split at ho1
          · rename_i hcond0
            cases ho1
            have hcond : ks.length < sizeLine ∧ k ∉ ks.map (·.1) := ⟨hcond0.1, fun z => by
              obtain ⟨q, hq, e⟩ := List.mem_map.mp z
              have := List.any_eq_true (p := fun p : Key × D => decide (p.1 = k)).mpr ⟨q, hq, decide_eq_true e⟩
              rw [hcond0.2] at this
              cases this⟩
            have V3 := V1.ext x2 (fun _ z => by cases z) R1.dz
            obtain ⟨o', q1, q2⟩ := R2.slot i _ hc
            rw [hu1] at q1
            cases q1
            rw [hm] at q2
            obtain ⟨p, xs, L', rfl, g1, g2, g3, g4⟩ := q2
            have g1' : w2.H p = some (.dK xs) := by rw [← R2.nl i hl p (by rw [g3]; exact List.mem_cons_self)]; exact g1
            have hkeys := alKR_keys g4
            have hput : putK xs k v = xs ++ [(k, v)] := putK_new (by rw [hkeys]; exact hcond.2)
            have nd2 := R2.nd i
            rw [g3] at nd2
            have nL : ∀ b ∈ L, b ∉ p :: L' := fun b hb z => (V3.2.2 b hb).2.1 i (by rw [g3]; exact z)
            obtain ⟨w3, r1, r2, r3, r4, r5, r6⟩ := mut_slot (w0 := w) (E := i :: (Ea ++ Eb)) (o' := .dK (putK xs k v)) (d' := .dct (ks ++ [(k, d)])) (L2 := L' ++ L) R2 (x1.trans (x2.mono e2)) List.mem_cons_self hc hu1 g3 (by
              rw [hm]
              refine ⟨p, _, L' ++ L, rfl, unl_of upd_same rfl, by rw [List.length_append, List.length_singleton]; omega, rfl, ?_⟩
              rw [hput]
              refine Al3.append (g4.imp fun q y l _ r hl' => ⟨r.1, r.2.frame (fun _ _ z => z) fun b hb => ?_⟩) (Al3.one ⟨rfl, V3.1.frame (fun _ _ z => z) fun b hb => ?_⟩)
              · rw [unl_upd rfl, upd_ne fun z => by subst z; exact (List.nodup_cons.mp nd2).1 (hl' _ hb)]
              · rw [unl_upd rfl, upd_ne fun z => by subst z; exact nL _ hb List.mem_cons_self]) (by
              rw [show p :: (L' ++ L) = (p :: L') ++ L from rfl]
              exact List.nodup_append.mpr ⟨nd2, V3.2.1, fun x hx y hy z => nL y hy (by rw [← z]; exact hx)⟩) rfl (fun _ z => by cases z) (fun b hb => by
              rcases List.mem_append.mp hb with hb | hb
              · exact .inl hb
              · refine .inr ⟨(V3.2.2 b hb).1, (V3.2.2 b hb).2.1, (V3.2.2 b hb).2.2, fun hn => ?_⟩
                obtain ⟨j', h1, h2⟩ := n1 b hb hn
                rcases h1 with h1 | h1
                · exact ⟨j', h1, h2⟩
                · cases h1)
            refine ⟨_, .inr ⟨p, rfl, .inl ⟨xs, k, g1', keyOf_fz hk (V2'.rd R2.sub), by rw [← List.length_map (f := (·.1)) (as := xs), hkeys, List.length_map]; exact hcond.1, rfl⟩⟩, ?_⟩
            rw [← r1]
            exact F w3 σ r5 r6
          · cases ho1
        · cases ho1
      · cases ho1
    · rename_i x0 e0 he
      cases ho1
      exact ⟨w1, env1, _, rfl, R1, he, fun w' p R' x P => F1 w' p σ (.inr trivial) (x.mono e2) P⟩
    · cases ho1
  · cases ho1
end
end PD
namespace PD
open PySem PySem.Spec PyProof.Rows L2 GF
/-! ### a slot's value is taken out of it; all but the top of an owned tree is frozen -/
section
variable {X : Cx} {G : Gc} {ms lk ms' ms1 : List Nat} {E : List Nat} {R : Rt} {XE : XK} {e : Expr} {c : DS} {st : Stmt} {rest : List Stmt}
def dMv (i : Nat) : DE := fun e => match e[i]? with
  | some (some d) => some (.ok d (e.set i none))
  | _ => none
theorem Ext.drop {w : Wd} {i : Nat} : Ext [i] w ⟨w.Z, w.H, fun j => if j = i then [] else w.Ls j⟩ := ⟨fun _ _ z => z, fun _ _ z _ => .inl z, fun _ z1 z2 => absurd z2 z1, fun j hj => if_neg (by simpa using hj), fun j hj a ha => (by
    have e : j = i := by simpa using hj
    subst e
    have ha : a ∈ (if j = j then [] else w.Ls j) := ha
    rw [if_pos rfl] at ha
    cases ha), fun _ z => z⟩
theorem se_mv {i m : Nat} (h : PE X e (tVar i)) (hm : md ms i = m) (hl : i ∉ lk := by decide) : PE X e (tD G ms lk (.own m) [i] XE (dMv i)) := h.weak fun σ H Q ⟨w, env, o, hH, Rl, ho, F⟩ => by
  unfold dMv at ho
  split at ho
  · rename_i d hd
    cases ho
    obtain ⟨v, hv, q⟩ := Rl.slot i d hd
    rw [hm] at q
    refine ⟨v, hv, ?_⟩
    rw [← hH]
    refine F ⟨w.Z, w.H, fun j => if j = i then [] else w.Ls j⟩ v (w.Ls i) (Rl.drop i) Ext.drop ⟨q, Rl.nd i, fun a ha => ⟨Rl.zn i a ha, fun j => ?_, Rl.nl i hl a ha⟩⟩ fun a ha hn => ⟨i, .inl (by simp), ha⟩
    show a ∉ (if j = i then [] else w.Ls j)
    split
    · simp
    · rename_i hj; exact Rl.dj i j (Ne.symm hj) a ha
  · cases ho
section
variable {K : PySem.W.Frag} {CA : Str → Addr} {Z h : Hp}
theorem al_zero {Z' : Hp} {m : Nat} (s : Same Z Z') : ∀ {ds : List D} {xs : List V} {L : List Addr}, Al3 (Ow K CA Z h m) ds xs L → (∀ a ∈ L, Z' a = h a) → Al3 (Ow K CA Z' h 0) ds xs []
  | [], _, _, q, _ => ⟨q.1, rfl⟩
  | d :: ds, _, _, q, f => by
    obtain ⟨v, r, L1, L2, e1, e2, h1, h2⟩ := q
    exact ⟨v, r, [], [], e1, rfl, ⟨rfl, h1.frz s fun a ha => f a (by rw [e2]; exact List.mem_append_left _ ha)⟩, al_zero s h2 fun a ha => f a (by rw [e2]; exact List.mem_append_right _ ha)⟩
theorem al_zeroK {κ : Type} {Z' : Hp} {m : Nat} (s : Same Z Z') : ∀ {ds : List (κ × D)} {xs : List (κ × V)} {L : List Addr}, Al3 (KR (Ow K CA Z h m)) ds xs L → (∀ a ∈ L, Z' a = h a) → Al3 (KR (Ow K CA Z' h 0)) ds xs []
  | [], _, _, q, _ => ⟨q.1, rfl⟩
  | d :: ds, _, _, q, f => by
    obtain ⟨v, r, L1, L2, e1, e2, h1, h2⟩ := q
    exact ⟨v, r, [], [], e1, rfl, ⟨h1.1, rfl, h1.2.frz s fun a ha => f a (by rw [e2]; exact List.mem_append_left _ ha)⟩, al_zeroK s h2 fun a ha => f a (by rw [e2]; exact List.mem_append_right _ ha)⟩
theorem Ow.low {m : Nat} {d : D} {v : V} {L : List Addr} (q : Ow K CA Z h (m + 1) d v L) : ∃ L1 L2, L = L1 ++ L2 ∧ ∀ Z', Same Z Z' → (∀ a ∈ L2, Z' a = h a) → Ow K CA Z' h 1 d v L1 := by
  cases d with
  | lst ds =>
    obtain ⟨a, xs, L', e, h1, h2, e2, h3⟩ := q
    exact ⟨[a], L', e2, fun Z' s f => ⟨a, xs, [], e, h1, h2, rfl, al_zero s h3 f⟩⟩
  | dct ds =>
    obtain ⟨a, xs, L', e, h1, h2, e2, h3⟩ := q
    exact ⟨[a], L', e2, fun Z' s f => ⟨a, xs, [], e, h1, h2, rfl, al_zeroK s h3 f⟩⟩
  | dtt ds =>
    obtain ⟨a, xs, L', e, h1, h2, e2, h3⟩ := q
    exact ⟨[a], L', e2, fun Z' s f => ⟨a, xs, [], e, h1, h2, rfl, al_zeroK s h3 f⟩⟩
  | obj c fs =>
    obtain ⟨a, dx, xs, L', e, h1, h2, e2, h3⟩ := q
    exact ⟨[a, dx], L', e2, fun Z' s f => ⟨a, dx, xs, [], e, h1, h2, rfl, al_zeroK s h3 f⟩⟩
  | tup ds =>
    obtain ⟨a, xs, e, h1, h2, h3⟩ := q
    exact ⟨[], L, rfl, fun Z' s f => ⟨a, xs, e, s _ _ h1, h2, al_zero s h3 f⟩⟩
  | non => exact ⟨[], L, rfl, fun Z' s f => ⟨rfl, q.2.same s⟩⟩
  | bl b => exact ⟨[], L, rfl, fun Z' s f => ⟨rfl, q.2.same s⟩⟩
  | int b => exact ⟨[], L, rfl, fun Z' s f => ⟨rfl, q.2.same s⟩⟩
  | str b => exact ⟨[], L, rfl, fun Z' s f => ⟨rfl, q.2.same s⟩⟩
  | scr b => exact ⟨[], L, rfl, fun Z' s f => ⟨rfl, q.2.same s⟩⟩
end
theorem Rel.low {w : Wd} {env : Ev} {σ : L2.St} (Rl : Rel G ms lk w env σ) {i : Nat} (hi : i < ms.length) (h1 : 1 ≤ md ms i) : ∃ L1 L2, w.Ls i = L1 ++ L2 ∧ Rel G (ms.set i 1) lk ⟨pl w.Z (unl w.H) L2, w.H, fun j => if j = i then L1 else w.Ls j⟩ env σ := by
  obtain ⟨L1, L2, e, hk⟩ : ∃ L1 L2, w.Ls i = L1 ++ L2 ∧ ∀ d, env[i]? = some (some d) → ∃ v, σ[i]? = some (some v) ∧ (Same w.Z (pl w.Z (unl w.H) L2) → Ow G.K G.CA (pl w.Z (unl w.H) L2) (unl w.H) 1 d v L1) := by
    by_cases hd : ∃ d, env[i]? = some (some d)
    · obtain ⟨d, hd⟩ := hd
      obtain ⟨v, hv, q⟩ := Rl.slot i d hd
      obtain ⟨m, em⟩ : ∃ m, md ms i = m + 1 := ⟨md ms i - 1, by omega⟩
      rw [em] at q
      obtain ⟨L1, L2, e, f⟩ := q.low
      refine ⟨L1, L2, e, fun d' hd' => ?_⟩
      rw [hd] at hd'
      cases hd'
      exact ⟨v, hv, fun s => f _ s fun a ha => pl_in ha⟩
    · exact ⟨[], w.Ls i, rfl, fun d z => absurd ⟨d, z⟩ hd⟩
  have i2 : ∀ a ∈ L2, a ∈ w.Ls i := fun a ha => by rw [e]; exact List.mem_append_right _ ha
  have i1 : ∀ a ∈ L1, a ∈ w.Ls i := fun a ha => by rw [e]; exact List.mem_append_left _ ha
  have ndi := Rl.nd i
  rw [e] at ndi
  have ap := List.nodup_append.mp ndi
  have s : Same w.Z (pl w.Z (unl w.H) L2) := pl_same fun a ha => Rl.zn i a (i2 a ha)
  have sub : ∀ j, ∀ a ∈ (if j = i then L1 else w.Ls j), a ∈ w.Ls j := fun j a ha => by
    split at ha
    · rename_i q; rw [q]; exact i1 a ha
    · exact ha
  refine ⟨L1, L2, e, pl_sub Rl.sub, Rl.len, fun j d hd => ?_, fun j hj => ?_, fun j => ?_, fun j l n a ha z => ?_, fun j a ha => ?_, fun j hj a ha => ?_, Rl.pin, fun a xs e => s _ _ (Rl.tz a xs e)⟩
  · show ∃ v, _ ∧ Ow _ _ _ _ _ _ _ (if j = i then L1 else w.Ls j)
    rw [md_set hi]
    by_cases q : j = i
    · subst q
      rw [if_pos rfl, if_pos rfl]
      obtain ⟨v, hv, f⟩ := hk d hd
      exact ⟨v, hv, f s⟩
    · rw [if_neg q, if_neg q]
      obtain ⟨v, hv, q⟩ := Rl.slot j d hd
      exact ⟨v, hv, q.frame s fun _ _ => rfl⟩
  · have := Rl.emp j hj
    cases q : (if j = i then L1 else w.Ls j) with
    | nil => exact q
    | cons a r =>
      have := sub j a (by rw [q]; exact List.mem_cons_self)
      rw [Rl.emp j hj] at this
      cases this
  · show (if j = i then L1 else w.Ls j).Nodup
    split
    · exact ap.1
    · exact Rl.nd j
  · exact Rl.dj j l n a (sub j a ha) (sub l a z)
  · show pl w.Z (unl w.H) L2 a = none
    unfold pl
    rw [if_neg ?_]
    · exact Rl.zn j a (sub j a ha)
    · intro z
      have ha : a ∈ (if j = i then L1 else w.Ls j) := ha
      by_cases q : j = i
      · rw [if_pos q] at ha
        exact ap.2.2 a ha a z rfl
      · rw [if_neg q] at ha
        exact Rl.dj j i q a ha (i2 a z)
  · exact Rl.nl j hj a (sub j a ha)
theorem Ext.low {w : Wd} {i : Nat} {L1 L2 : List Addr} (e : w.Ls i = L1 ++ L2) (zn : ∀ a ∈ w.Ls i, w.Z a = none) (hi : i ∈ E) : Ext E w ⟨pl w.Z (unl w.H) L2, w.H, fun j => if j = i then L1 else w.Ls j⟩ := by
  have i2 : ∀ a ∈ L2, a ∈ w.Ls i := fun a ha => by rw [e]; exact List.mem_append_right _ ha
  refine ⟨pl_same fun a ha => zn a (i2 a ha), fun _ _ z _ => .inl z, fun a z1 z2 _ => ?_, fun j hj => if_neg fun z => hj (by rw [z]; exact hi), fun j hj a ha _ => ?_, fun _ z => z⟩
  · have z1 : pl w.Z (unl w.H) L2 a ≠ none := z1
    unfold pl at z1
    by_cases ha : a ∈ L2
    · exact ⟨i, hi, i2 a ha⟩
    · rw [if_neg ha] at z1; exact absurd z2 z1
  · have ha : a ∈ (if j = i then L1 else w.Ls j) := ha
    split at ha
    · rename_i q
      exact ⟨i, hi, by rw [e]; exact List.mem_append_left _ ha⟩
    · exact ⟨j, hj, ha⟩
/-- behind a statement: the slot owns its top only -/
theorem ss_lowN (i : Nat) (h : PS X st (tS G ms lk ms1 E R XE c)) (hi : i < ms1.length := by decide) (h1 : 1 ≤ md ms1 i := by decide) : PS X st (tS G ms lk (ms1.set i 1) (i :: E) R XE c) := PS.weak h fun Dn σ H ⟨w, env, o, hH, Rl, ho, F⟩ => by
  refine ⟨w, env, o, hH, Rl, ho, ?_⟩
  have l : ∀ j ∈ E, j ∈ i :: E := fun j hj => List.mem_cons_of_mem _ hj
  cases o with
  | nx e1 =>
    intro w' σ' R' x
    obtain ⟨L1, L2, e, R2⟩ := R'.low hi h1
    exact F ⟨pl w'.Z (unl w'.H) L2, w'.H, fun j => if j = i then L1 else w'.Ls j⟩ σ' R2 ((x.mono l).trans (Ext.low e (fun a ha => R'.zn i a ha) List.mem_cons_self))
  | rt d e1 => exact fun w' σ' v L msr lkr e'' R' i x V n => F w' σ' v L msr lkr e'' R' i (x.mono l) V (n.mono l fun _ z => z)
  | bk e1 => exact fun w' σ' R' x => F w' σ' R' (x.mono l)
  | ct e1 => exact fun w' σ' R' x => F w' σ' R' (x.mono l)
  | ex y e1 => exact fun w' p σ' _ x P => F w' p σ' (.inr trivial) (x.mono l) P
end
end PD
namespace Zl
open PySem PySem.Spec PyProof.Rows L2 PySem.Calls
/-! ### list(zip(xs, ys)), sorted(zip(xs, ys)) -/
theorem len_zip : typeLookup (.type "zip") "__len__" = pure none := by rw [typeLookup_type, builtinLookup_eq_fast]; kernel_rfl
theorem hint_zip : typeLookup (.type "zip") "__length_hint__" = pure none := by rw [typeLookup_type, builtinLookup_eq_fast]; kernel_rfl
structure ZSt (z TI TO i1 i2 l1 l2 S : Addr) (xs ys : Array Value) (i : Nat) (h : Heap) : Prop where
  ti : PySem.IsPair h TI (.ref i1) (.ref i2)
  a1 : h.IsListIter i1 l1 i
  a2 : h.IsListIter i2 l2 i
  b1 : h.IsList l1 xs
  b2 : h.IsList l2 ys
  st : (IsZip h z TI TO .none ∧ ∃ a b, PySem.IsPair h TO a b) ∨ ∃ T f oT, IsZipHeld h z TI TO T f ∧ h.get? T = some oT ∧ T ≠ z ∧ T ≠ i1 ∧ T ≠ i2 ∧ T ≠ S
section
variable {prog : Program} {w : World} {A : Around} {E : Value → Shared → Prop} {s : Shared} {z TI TO i1 i2 l1 l2 S : Addr} {xs ys : Array Value}
theorem ZSt.keep {h h' : Heap} {i : Nat} (x : ZSt z TI TO i1 i2 l1 l2 S xs ys i h) (hk : ∀ b o, b ≠ S → h.get? b = some o → h'.get? b = some o) (n : ∀ b ∈ [z, TI, TO, i1, i2, l1, l2], b ≠ S) : ZSt z TI TO i1 i2 l1 l2 S xs ys i h' := by
  have n' : z ≠ S ∧ TI ≠ S ∧ TO ≠ S ∧ i1 ≠ S ∧ i2 ≠ S ∧ l1 ≠ S ∧ l2 ≠ S := by simpa using n
  obtain ⟨n1, n2, n3, n4, n5, n6, n7⟩ := n'
  refine ⟨hk _ _ n2 x.ti, x.a1.at fun o e => hk _ o n4 e, x.a2.at fun o e => hk _ o n5 e, x.b1.at fun o e => hk _ o n6 e, x.b2.at fun o e => hk _ o n7 e, ?_⟩
  rcases x.st with ⟨hz, a, b, hTO⟩ | ⟨T, f, oT, hz, hT, r1, r2, r3, r4⟩
  · exact .inl ⟨hk _ _ n1 hz, a, b, hk _ _ n3 hTO⟩
  · exact .inr ⟨T, f, oT, hk _ _ n1 hz, hk _ _ r4 hT, r1, r2, r3, r4⟩
theorem z_item {i : Nat} {x y : Value} {Q : Option Value → Shared → Prop} (D : ZipApart z TI TO i1 i2 l1 l2) (st : ZSt z TI TO i1 i2 l1 l2 S xs ys i s.heap) (hS : S < s.heap.objs.size) (ex : xs[i]? = some x) (ey : ys[i]? = some y)
    (hQ : ∀ h', ZSt z TI TO i1 i2 l1 l2 S xs ys (i + 1) h' → PySem.IsPair h' s.heap.objs.size x y → h'.objs.size = s.heap.objs.size + 1 → (∀ c o, c ∉ [z, TO, i1, i2] → s.heap.get? c = some o → h'.get? c = some o) → Q (some (.ref s.heap.objs.size)) { s with heap := h' }) :
    wpAny (model prog w) A (pyNext (.ref z)) Q E s := by
  obtain ⟨hTI, h1, h2, hl1, hl2, hz⟩ := st
  have lt : ∀ {c o}, s.heap.get? c = some o → s.heap.objs.size ≠ c := fun e => Nat.ne_of_gt (Heap.lt_size e)
  have n1 : s.heap.objs.size ≠ i1 := let ⟨_, e, _⟩ := h1; lt e
  have n2 : s.heap.objs.size ≠ i2 := let ⟨_, e, _⟩ := h2; lt e
  rcases hz with ⟨hz, a, b, hTO⟩ | ⟨T, f, oT, hz, hT, r1, r2, r3, r4⟩
  · refine wpAny_pyNext_zip_item D hz hTI hTO h1 h2 hl1 hl2 ex ey fun h' a1 a2 a3 a4 a5 a6 hk => ?_
    exact hQ h' ⟨hk _ _ D.TIz D.TITO D.TIi1 D.TIi2 hTI, a3, a4, hl1.at fun o e => hk _ o D.l1z D.l1TO D.l1i1 D.l1i2 e, hl2.at fun o e => hk _ o D.l2z D.l2TO D.l2i1 D.l2i2 e,
      .inr ⟨s.heap.objs.size, false, _, a1, a5, lt hz, n1, n2, Nat.ne_of_gt hS⟩⟩ a5 a6
      fun c o hc e => hk c o (fun x => hc (by simp [x])) (fun x => hc (by simp [x])) (fun x => hc (by simp [x])) (fun x => hc (by simp [x])) e
  · refine wpAny_pyNext_zip_item_held D hz hT hTI h1 h2 hl1 hl2 ex ey fun h' a1 a3 a4 a5 a6 hk => ?_
    exact hQ h' ⟨hk _ _ D.TIz D.TIi1 D.TIi2 hTI, a3, a4, hl1.at fun o e => hk _ o D.l1z D.l1i1 D.l1i2 e, hl2.at fun o e => hk _ o D.l2z D.l2i1 D.l2i2 e,
      .inr ⟨T, true, oT, a1, hk _ _ r1 r2 r3 hT, r1, r2, r3, r4⟩⟩ a5 a6
      fun c o hc e => hk c o (fun x => hc (by simp [x])) (fun x => hc (by simp [x])) (fun x => hc (by simp [x])) e
theorem z_done {i : Nat} {Q : Option Value → Shared → Prop} (hh : A.handled = none) (D : ZipApart z TI TO i1 i2 l1 l2) (st : ZSt z TI TO i1 i2 l1 l2 S xs ys i s.heap) (hend : xs[i]? = none ∨ ys[i]? = none)
    (hQ : ∀ h', (∀ c o, c ∉ [z, TO, i1, i2] → s.heap.get? c = some o → h'.get? c = some o) → Q none { s with heap := h' }) : wpAny (model prog w) A (pyNext (.ref z)) Q E s := by
  obtain ⟨hTI, h1, h2, hl1, hl2, hz⟩ := st
  rcases hz with ⟨hz, a, b, hTO⟩ | ⟨T, f, oT, hz, hT, r1, r2, r3, r4⟩
  · exact wpAny_pyNext_zip_end hh D hz hTI hTO h1 h2 hl1 hl2 hend fun h' hk => hQ h' fun c o hc e => hk c o (fun x => hc (by simp [x])) (fun x => hc (by simp [x])) (fun x => hc (by simp [x])) (fun x => hc (by simp [x])) e
  · exact wpAny_pyNext_zip_end_held hh D hz hT hTI h1 h2 hl1 hl2 hend fun h' hk => hQ h' fun c o hc e => hk c o (fun x => hc (by simp [x])) (fun x => hc (by simp [x])) (fun x => hc (by simp [x])) e
/-- the pairs laid at as -/
structure ZG (xs ys : Array Value) (lo : Addr) (h : Heap) (as : List Addr) : Prop where
  rise : as.Pairwise (· < ·)
  above : ∀ a ∈ as, lo < a
  pairs : ∀ (j : Nat) (a : Addr), as[j]? = some a → ∃ x y, xs[j]? = some x ∧ ys[j]? = some y ∧ PySem.IsPair h a x y
theorem ZG.there {lo : Addr} {h : Heap} {as : List Addr} (g : ZG xs ys lo h as) {a : Addr} (ha : a ∈ as) : a < h.objs.size := by
  obtain ⟨j, hj⟩ := List.mem_iff_getElem?.mp ha
  obtain ⟨_, _, _, _, e⟩ := g.pairs j a hj
  exact Heap.lt_size e
end
section
variable {prog : Program} {w : World} {A : Around} {s : Shared} {R : Result → Shared → Prop} {z TI TO i1 i2 l1 l2 S : Addr} {xs ys : Array Value}
theorem z_loop (hh : A.handled = none) (D : ZipApart z TI TO i1 i2 l1 l2) (below : ∀ b ∈ [z, TI, TO, i1, i2, l1, l2], b < S) (hn : min xs.size ys.size ≤ sizeLine) (res : Value) {h₁ : Heap}
    (hR : ∀ h' tk acc c as, (∀ b o, b ≠ S → b ∉ [z, TO, i1, i2] → h₁.get? b = some o → h'.get? b = some o) → h'.get? S = some { cls := .type "list", dict := none, data := .seq acc c, slots := #[] } → as.length = min xs.size ys.size → ZG xs ys S h' as →
      acc.toList = as.map Value.ref → R (.ok (.ret res)) { s with heap := h', toks := tk }) :
    ∀ (k i : Nat) (h : Heap) (tk c : Nat) (acc : Array Value) (as : List Addr), min xs.size ys.size - i = k → i ≤ min xs.size ys.size → ZSt z TI TO i1 i2 l1 l2 S xs ys i h → (∀ b o, b ≠ S → b ∉ [z, TO, i1, i2] → h₁.get? b = some o → h.get? b = some o) →
      h.get? S = some { cls := .type "list", dict := none, data := .seq acc c, slots := #[] } → acc.toList = as.map Value.ref → as.length = i → ZG xs ys S h as →
      codeAny (model prog w) A (.builtin "list.extend.loop" ⟨[.ref S, .ref z, res], []⟩) R { s with heap := h, toks := tk } := by
  have nS : ∀ b ∈ [z, TI, TO, i1, i2, l1, l2], b ≠ S := fun b hb => Nat.ne_of_lt (below b hb)
  have nw : S ∉ [z, TO, i1, i2] := fun m => by
    have := below S (by simp at m ⊢; rcases m with m | m | m | m <;> simp [m])
    exact Nat.lt_irrefl _ this
  have low : ∀ b, b ∈ [z, TO, i1, i2] → b < S := fun b m => below b (by simp at m ⊢; rcases m with m | m | m | m <;> simp [m])
  intro k
  induction k with
  | zero =>
    intro i h tk c acc as hk hi hst hkeep hS hacc hal hG
    have hin : i = min xs.size ys.size := by omega
    have hend : xs[i]? = none ∨ ys[i]? = none := by
      rcases Nat.le_total xs.size ys.size with q | q
      · exact .inl (Array.getElem?_eq_none (by omega))
      · exact .inr (Array.getElem?_eq_none (by omega))
    refine codeAny_builtin PySem.F.entry_extend_loop ?_
    rw [Around.under_plainId PySem.F.plain_extend_loop _]
    show wpAny _ A.in1 (pyNext (.ref z) >>= _) _ _ _
    refine wpAny_bind (z_done (s := { s with heap := h, toks := tk }) (A := A.in1) hh D hst hend fun h' he => ?_)
    refine wpAny_pure (hR h' tk acc c as (fun b o h1 h2 e => he b o h2 (hkeep b o h1 h2 e)) (he S _ nw hS) (by omega) ⟨hG.rise, hG.above, fun j a hj => ?_⟩ hacc)
    obtain ⟨x, y, e1, e2, e3⟩ := hG.pairs j a hj
    exact ⟨x, y, e1, e2, he a _ (fun m => Nat.lt_asymm (low a m) (hG.above a (List.mem_of_getElem? hj))) e3⟩
  | succ k ih =>
    intro i h tk c acc as hk hi hst hkeep hS hacc hal hG
    have hix : i < xs.size := by omega
    have hiy : i < ys.size := by omega
    have hsz : acc.size = i := by rw [← Array.length_toList, hacc, List.length_map, hal]
    refine codeAny_builtin PySem.F.entry_extend_loop ?_
    rw [Around.under_plainId PySem.F.plain_extend_loop _]
    show wpAny _ A.in1 (pyNext (.ref z) >>= _) _ _ _
    refine wpAny_bind (z_item (s := { s with heap := h, toks := tk }) (S := S) D hst (Heap.lt_size hS) (Array.getElem?_eq_getElem hix) (Array.getElem?_eq_getElem hiy) fun h' hst' ht hz hkp => ?_)
    dsimp only at ht hz hkp ⊢
    have hS' := hkp S _ nw hS
    have up : ∀ b o, b ≠ S → h'.get? b = some o → (h'.update S (Obj.mapSeq (·.push (Value.ref h.objs.size)))).get? b = some o := fun b o hb e => (Heap.get?_update_other _ _ (Ne.symm hb)).trans e
    have hSl : S < h.objs.size := Heap.lt_size hS
    show wpAny _ A.in1 (updateSeq S (·.push (Value.ref h.objs.size)) >>= _) _ _ _
    refine wpAny_bind ?_
    refine wpAny_updateSeq hS' rfl (wpAny_pure ⟨plainId_quiet PySem.F.plain_extend_loop _, ih (i + 1) _ tk _ (acc.push (Value.ref h.objs.size)) (as ++ [h.objs.size]) (by omega) (by omega) (hst'.keep up nS)
      (fun b o h1 h2 e => up b o h1 (hkp b o h2 (hkeep b o h1 h2 e))) (Heap.get?_update_self _ hS' rfl) (by rw [Array.toList_push, hacc, List.map_append]; rfl) (by rw [List.length_append, hal]; rfl) ⟨?_, ?_, ?_⟩⟩) (by rw [hsz]; omega) (by show (acc.push (Value.ref h.objs.size)).size ≤ sizeLine + 1; rw [Array.size_push, hsz]; omega)
    · refine List.pairwise_append.mpr ⟨hG.rise, List.pairwise_singleton _ _, fun a ha b hb => ?_⟩
      rw [List.mem_singleton.mp hb]
      exact hG.there ha
    · intro a ha
      rcases List.mem_append.mp ha with ha | ha
      · exact hG.above a ha
      · rw [List.mem_singleton.mp ha]; exact hSl
    · intro j b hj
      rcases Nat.lt_trichotomy j as.length with h1 | h1 | h1
      · rw [List.getElem?_append_left h1] at hj
        obtain ⟨x', y', e1, e2, e3⟩ := hG.pairs j b hj
        have hb := hG.above b (List.mem_of_getElem? hj)
        exact ⟨x', y', e1, e2, up b _ (Nat.ne_of_gt hb) (hkp b _ (fun m => Nat.lt_asymm (low b m) hb) e3)⟩
      · subst h1
        have hb : h.objs.size = b := by simpa using hj
        subst hb
        exact ⟨_, _, by rw [hal]; exact Array.getElem?_eq_getElem hix, by rw [hal]; exact Array.getElem?_eq_getElem hiy, up _ _ (Nat.ne_of_gt hSl) ht⟩
      · have hnone : (as ++ [h.objs.size])[j]? = none := List.getElem?_eq_none (by rw [List.length_append, List.length_singleton]; omega)
        rw [hnone] at hj; cases hj
end
end Zl
namespace Zl
open PySem PySem.Spec PyProof.Rows L2 PySem.Calls
section
variable {prog : Program} {w : World} {A : Around} {E : Value → Shared → Prop} {s : Shared} {z TI TO i1 i2 l1 l2 S : Addr} {xs ys : Array Value}
theorem ZSt.typeIs {i : Nat} {s : Shared} (x : ZSt z TI TO i1 i2 l1 l2 S xs ys i s.heap) : s.TypeIs (.ref z) "zip" := by
  rcases x.st with ⟨hz, _⟩ | ⟨T, f, oT, hz, _⟩
  · exact ⟨_, hz, rfl⟩
  · exact ⟨_, hz, rfl⟩
theorem z_extend {R : Result → Shared → Prop} (hh : A.handled = none) (D : ZipApart z TI TO i1 i2 l1 l2) (below : ∀ b ∈ [z, TI, TO, i1, i2, l1, l2], b < S) (hn : min xs.size ys.size ≤ sizeLine) (res : Value) (c₀ : Nat)
    (hS : s.heap.get? S = some { cls := .type "list", data := .seq #[] c₀ }) (hz : IsZip s.heap z TI TO .none) (hTO : ∃ a b, PySem.IsPair s.heap TO a b) (hst : ZSt z TI TO i1 i2 l1 l2 S xs ys 0 s.heap)
    (hR : ∀ h' tk acc c as, (∀ b o, b ≠ S → b ∉ [z, TO, i1, i2] → s.heap.get? b = some o → h'.get? b = some o) → h'.get? S = some { cls := .type "list", dict := none, data := .seq acc c, slots := #[] } → as.length = min xs.size ys.size → ZG xs ys S h' as →
      acc.toList = as.map Value.ref → R (.ok (.ret res)) { s with heap := h', toks := tk }) :
    wpAny (model prog w) A.in1 (Builtin.List.listExtendWith (.ref S) (.ref z) res)
      (fun fin s' => match fin with | .done f => R (.ok f) s' | .again c' => c'.quiet = true ∧ codeAny (model prog w) A c' R s') (fun e s' => R (.error e) s') s := by
  have nS : ∀ b ∈ [z, TI, TO, i1, i2, l1, l2], b ≠ S := fun b hb => Nat.ne_of_lt (below b hb)
  have hSz : S ≠ z := fun e => nS z (by simp) e.symm
  unfold Builtin.List.listExtendWith
  refine wpAny_bind (wpAny_typeOf (T := "zip") hst.typeIs ?_)
  have h1 : Builtin.List.listSameRef (.ref S) (.ref z) = false := by simp [Builtin.List.listSameRef, hSz]
  have h2 : (Value.type "zip" == Value.type "list") = false := by decide
  have h3 : (Value.type "zip" == Value.type "tuple") = false := by decide
  simp only [h1, h2, h3, Bool.or_false, Bool.false_eq_true, if_false]
  refine wpAny_bind (wpAny_pyIter_zip hz ?_)
  refine wpAny_bind (wpAny_holding ?_)
  unfold Builtin.List.listLengthHint
  refine wpAny_bind (wpAny_specialOf hst.typeIs len_zip ?_)
  show wpAny _ A.in1 (specialOf (Value.ref z) (Str.ofString "__length_hint__") >>= _) _ _ _
  refine wpAny_bind (wpAny_specialOf hst.typeIs hint_zip ?_)
  refine wpAny_pure ?_
  show wpAny _ A.in1 (rule "list.extend.makes-room" >>= fun _ => Builtin.List.listTouch (.ref S) >>= fun _ =>
    again (.builtin "list.extend.loop" ⟨[.ref S, .ref z, res], []⟩)) _ _ _
  refine wpAny_bind (wpAny_rule ?_)
  refine wpAny_bind ?_
  show wpAny _ A.in1 (updateSeq S (·.push .none) >>= fun _ => updateSeq S (·.pop)) _ _ _
  refine wpAny_bind (wpAny_updateSeq hS rfl ?_)
  have hS₂ := Heap.get?_update_self (Obj.mapSeq (·.push Value.none)) hS rfl
  refine wpAny_updateSeq (hz := by seq_fits) hS₂ rfl ?_
  have hS₃ := Heap.get?_update_self (Obj.mapSeq (·.pop)) hS₂ rfl
  have oth : ∀ b o, b ≠ S → s.heap.get? b = some o → ((s.heap.update S (Obj.mapSeq (·.push Value.none))).update S (Obj.mapSeq (·.pop))).get? b = some o :=
    fun b o hb e => (Heap.get?_update_other _ _ (Ne.symm hb)).trans ((Heap.get?_update_other _ _ (Ne.symm hb)).trans e)
  refine wpAny_pure ⟨plainId_quiet PySem.F.plain_extend_loop _, z_loop (s := s) (h₁ := s.heap) hh D below hn res (fun h' tk acc c as hk hS' hl hG hacc => hR h' tk acc c as hk hS' hl hG hacc) _ 0 _ _ _ #[] [] rfl (Nat.zero_le _) (hst.keep oth nS) (fun b o h1 _ e => oth b o h1 e) hS₃ rfl rfl ⟨List.Pairwise.nil, (fun _ ha => nomatch ha), (fun j a hj => by simp at hj)⟩⟩
/-- a zip as call_zip_2 lays it -/
structure ZNew (z TI TO i1 i2 l1 l2 : Addr) (xs ys : Array Value) (h : Heap) : Prop where
  hz : IsZip h z TI TO .none
  ti : PySem.IsPair h TI (.ref i1) (.ref i2)
  to : PySem.IsPair h TO .none .none
  a1 : h.IsListIter i1 l1 0
  a2 : h.IsListIter i2 l2 0
  b1 : h.IsList l1 xs
  b2 : h.IsList l2 ys
theorem ZNew.keep {h h' : Heap} (x : ZNew z TI TO i1 i2 l1 l2 xs ys h) (hk : ∀ b o, h.get? b = some o → h'.get? b = some o) : ZNew z TI TO i1 i2 l1 l2 xs ys h' :=
  ⟨hk _ _ x.hz, hk _ _ x.ti, hk _ _ x.to, x.a1.at fun o e => hk _ o e, x.a2.at fun o e => hk _ o e, x.b1.at fun o e => hk _ o e, x.b2.at fun o e => hk _ o e⟩
theorem ZNew.st {h : Heap} (x : ZNew z TI TO i1 i2 l1 l2 xs ys h) : ZSt z TI TO i1 i2 l1 l2 S xs ys 0 h := ⟨x.ti, x.a1, x.a2, x.b1, x.b2, .inl ⟨x.hz, _, _, x.to⟩⟩
theorem ZNew.below {h : Heap} (x : ZNew z TI TO i1 i2 l1 l2 xs ys h) : ∀ b ∈ [z, TI, TO, i1, i2, l1, l2], b < h.objs.size := by
  intro b hb
  simp only [List.mem_cons, List.not_mem_nil, or_false] at hb
  rcases hb with rfl | rfl | rfl | rfl | rfl | rfl | rfl
  · exact Heap.lt_size x.hz
  · exact Heap.lt_size x.ti
  · exact Heap.lt_size x.to
  · obtain ⟨_, e, _⟩ := x.a1; exact Heap.lt_size e
  · obtain ⟨_, e, _⟩ := x.a2; exact Heap.lt_size e
  · obtain ⟨_, e, _⟩ := x.b1; exact Heap.lt_size e
  · obtain ⟨_, e, _⟩ := x.b2; exact Heap.lt_size e
theorem z_call {Q : Value → Shared → Prop} (hh : A.handled = none) (D : ZipApart z TI TO i1 i2 l1 l2) (Z : ZNew z TI TO i1 i2 l1 l2 xs ys s.heap) (hn : min xs.size ys.size ≤ sizeLine)
    (hQ : ∀ h' tk acc c as, (∀ b o, b ∉ [z, TO, i1, i2] → s.heap.get? b = some o → h'.get? b = some o) → h'.get? s.heap.objs.size = some { cls := .type "list", dict := none, data := .seq acc c, slots := #[] } → as.length = min xs.size ys.size → ZG xs ys s.heap.objs.size h' as →
      acc.toList = as.map Value.ref → Q (.ref s.heap.objs.size) { s with heap := h', toks := tk }) :
    wpAny (model prog w) A (call (.type "list") [.ref z]) Q E s := by
  refine callType_codes (Q₁ := fun obj s₁ => obj = .ref s.heap.objs.size ∧ s₁ = { s with heap := s.heap.push { cls := .type "list", data := .seq #[] } }) PySem.F.called_list (PySem.F.typeCall_list_1 _) PySem.F.entry_list_init
    (code_list_new _ ⟨rfl, rfl⟩) fun obj s₁ h₁ => ?_
  obtain ⟨rfl, rfl⟩ := h₁
  have hS : (s.heap.push { cls := .type "list", data := .seq #[] }).get? s.heap.objs.size = some { cls := .type "list", data := .seq #[] } := Heap.get?_push_size _ rfl
  have Z1 := Z.keep (h' := s.heap.push { cls := .type "list", data := .seq #[] }) fun b o e => Heap.get?_push_of_some _ e
  refine ⟨⟨_, hS, rfl⟩, PySem.F.args_list_init_2 _ _, ?_⟩
  show wpAny _ _ (do let old ← Builtin.List.listItems (.ref s.heap.objs.size); Builtin.List.listUpdate (.ref s.heap.objs.size) (fun _ => #[]); letGo old.toList.reverse; Builtin.List.listExtendWith (.ref s.heap.objs.size) (.ref z) .none) _ _ _
  refine wpAny_bind ?_
  unfold Builtin.List.listItems
  refine wpAny_bind (wpAny_seqItems hS rfl (wpAny_pure ?_))
  show wpAny _ _ (updateSeq s.heap.objs.size (fun _ => #[]) >>= fun _ => letGo (#[] : Array Value).toList.reverse >>= fun _ => Builtin.List.listExtendWith (.ref s.heap.objs.size) (.ref z) .none) _ _ _
  refine wpAny_bind (wpAny_updateSeq hS rfl ?_)
  have hS₂ := Heap.get?_update_self (Obj.mapSeq (fun _ => (#[] : Array Value))) hS rfl
  have oth : ∀ b o, b ≠ s.heap.objs.size → (s.heap.push { cls := .type "list", data := .seq #[] }).get? b = some o → ((s.heap.push { cls := .type "list", data := .seq #[] }).update s.heap.objs.size (Obj.mapSeq (fun _ => (#[] : Array Value)))).get? b = some o :=
    fun b o hb e => (Heap.get?_update_other _ _ (Ne.symm hb)).trans e
  refine wpAny_bind (wpAny_letGo ?_)
  have n0 : ∀ b ∈ [z, TI, TO, i1, i2, l1, l2], b ≠ s.heap.objs.size := fun b hb => Nat.ne_of_lt (Z.below b hb)
  refine z_extend (A := A.in1) hh D Z.below hn .none _ hS₂ (oth _ _ (n0 z (by simp)) Z1.hz) ⟨_, _, oth _ _ (n0 TO (by simp)) Z1.to⟩ (Z1.st.keep oth n0) fun h' tk acc c as hk hS' hl hG hacc => ?_
  refine ⟨rfl, hQ h' tk acc c as (fun b o n e => ?_) hS' hl hG hacc⟩
  exact hk b o (Nat.ne_of_lt (Heap.lt_size e)) n (oth b o (Nat.ne_of_lt (Heap.lt_size e)) (Heap.get?_push_of_some _ e))
theorem z_collect {R : List Value → Shared → Prop} (hh : A.handled = none) (D : ZipApart z TI TO i1 i2 l1 l2) (Z : ZNew z TI TO i1 i2 l1 l2 xs ys s.heap) (hn : min xs.size ys.size ≤ sizeLine)
    (h : ∀ (h' : Heap) (tk : Nat) (as : List Addr), (∀ b o, b ∉ [z, TO, i1, i2] → s.heap.get? b = some o → h'.get? b = some o) → as.length = min xs.size ys.size → ZG xs ys s.heap.objs.size h' as → s.heap.objs.size < h'.objs.size → R (as.map Value.ref) { s with heap := h', toks := tk }) :
    wpAny (model prog w) A (collect (.ref z)) R E s := by
  unfold collect
  refine wpAny_bind (wpAny_runValue (codeAny_builtin PySem.F.entry_proto_collect ?_))
  rw [Around.under_plainId PySem.F.plain_proto_collect _]
  show wpAny _ A.in1 (newList [] >>= fun l => again (.builtin "list.__iadd__" ⟨[l, .ref z], []⟩)) _ _ s
  refine wpAny_bind (wpAny_newObj_type ?_)
  refine wpAny_pure ⟨plainId_quiet PySem.F.plain_list_iadd _, codeAny_builtin PySem.F.entry_list_iadd ?_⟩
  rw [Around.under_plainId PySem.F.plain_list_iadd _]
  have hS₁ : (s.heap.push { cls := .type "list", data := .seq ([] : List Value).toArray }).get? s.heap.objs.size = some { cls := .type "list", data := .seq #[] } := Heap.get?_push_size _ rfl
  have Z1 := Z.keep (h' := s.heap.push { cls := .type "list", data := .seq ([] : List Value).toArray }) fun b o e => Heap.get?_push_of_some _ e
  show wpAny _ A.in1 (Builtin.List.listExtendWith (.ref s.heap.objs.size) (.ref z) (.ref s.heap.objs.size)) _ _ _
  have key := z_extend (prog := prog) (w := w) (A := A) (s := { s with heap := s.heap.push { cls := .type "list", data := .seq ([] : List Value).toArray } })
    (R := fun (q : Result) (s' : Shared) => ∃ (h' : Heap) (tk : Nat) (acc' : Array Value) (c' : Nat) (as : List Addr), q = .ok (.ret (.ref s.heap.objs.size)) ∧ s' = { s with heap := h', toks := tk } ∧
      (∀ b o, b ∉ [z, TO, i1, i2] → s.heap.get? b = some o → h'.get? b = some o) ∧ h'.get? s.heap.objs.size = some { cls := .type "list", dict := none, data := .seq acc' c', slots := #[] } ∧ as.length = min xs.size ys.size ∧ ZG xs ys s.heap.objs.size h' as ∧ acc'.toList = as.map Value.ref)
    hh D Z.below hn (.ref s.heap.objs.size) 0 hS₁ Z1.hz ⟨_, _, Z1.to⟩ Z1.st
    (fun h' tk acc' c' as hk hS' hl hG hacc => ⟨h', tk, acc', c', as, rfl, rfl, fun b o n e => hk b o (Nat.ne_of_lt (Heap.lt_size e)) n (Heap.get?_push_of_some _ e), hS', hl, hG, hacc⟩)
  refine wpAny_mono key (fun fin s' x => ?_) fun e s' x => ?_
  · cases fin with
    | done f =>
      obtain ⟨h', tk, acc', c', as, e, rfl, hk, hS', hl, hG, hacc⟩ := x
      cases e
      show wpAny _ A (load s.heap.objs.size >>= _) _ _ _
      refine wpAny_bind (wpAny_load hS' ?_)
      refine wpAny_pure ?_
      show R acc'.toList _
      rw [hacc]
      exact h h' tk as hk hl hG (Heap.lt_size hS')
    | again c₁ =>
      refine ⟨x.1, codeAny_mono x.2 fun q s₂ y => ?_⟩
      obtain ⟨h', tk, acc', c', as, rfl, rfl, hk, hS', hl, hG, hacc⟩ := y
      show wpAny _ A (load s.heap.objs.size >>= _) _ _ _
      refine wpAny_bind (wpAny_load hS' ?_)
      refine wpAny_pure ?_
      show R acc'.toList _
      rw [hacc]
      exact h h' tk as hk hl hG (Heap.lt_size hS')
  · obtain ⟨_, _, _, _, _, e', _⟩ := x
    cases e'
end
end Zl
namespace Zl
open PySem PySem.Spec PyProof.Rows L2
/-- the pairs tracked at their addresses -/
def putQ : Hp → List Addr → List (V × V) → Hp
  | H, a :: as, p :: kvs => putQ (upd H a (.tup [p.1, p.2])) as kvs
  | H, _, _ => H
theorem putQ_off {b : Addr} : ∀ (as : List Addr) (kvs : List (V × V)) (H : Hp), b ∉ as → putQ H as kvs b = H b
  | [], _, _, _ => rfl
  | _ :: _, [], _, _ => rfl
  | a :: as, p :: kvs, H, h => by
    show putQ (upd H a (.tup [p.1, p.2])) as kvs b = H b
    rw [putQ_off as kvs _ (fun z => h (List.mem_cons_of_mem _ z)), upd_ne (fun z => h (by rw [z]; exact List.mem_cons_self))]
theorem putQ_at : ∀ (as : List Addr) (kvs : List (V × V)) (H : Hp), as.length = kvs.length → as.Nodup → Paired (fun (t : Addr) (p : V × V) => putQ H as kvs t = some (.tup [p.1, p.2])) as kvs
  | [], [], _, _, _ => .nil
  | [], _ :: _, _, h, _ => by cases h
  | _ :: _, [], _, h, _ => by cases h
  | a :: as, p :: kvs, H, h, hn => by
    have hn' := List.nodup_cons.mp hn
    have ih := putQ_at as kvs (upd H a (.tup [p.1, p.2])) (Nat.succ.inj h) hn'.2
    refine .cons ?_ ih
    show putQ (upd H a (.tup [p.1, p.2])) as kvs a = some (.tup [p.1, p.2])
    rw [putQ_off as kvs _ hn'.1, upd_same]
section
variable {X : Cx}
theorem pairs_laid {pins : List (Addr × Obj)} {σ : L2.St} {H : Hp} {s : Shared} {h' : Heap} {tk : Nat} {acc : Array Value} {c : Nat} {bs : List Addr} {S : Addr} {qs : List (V × V)} (I : Inv X pins σ H s) (hz : bs.length ≤ sizeLine) (hS0 : s.heap.objs.size ≤ S)
    (hk : ∀ b o, s.heap.get? b = some o → h'.get? b = some o) (hS : h'.get? S = some { cls := .type "list", dict := none, data := .seq acc c, slots := #[] }) (hacc : acc.toList = bs.map Value.ref) (nd : bs.Nodup) (new0 : ∀ b ∈ bs, s.heap.objs.size ≤ b ∧ b ≠ S)
    (hp : Paired (fun (b : Addr) (q : V × V) => ∃ u v, RelV q.1 u ∧ RelV q.2 v ∧ h'.get? b = some { cls := .type "tuple", data := .seq #[u, v] }) bs qs) :
    ∃ H' : Hp, (∀ b o, H b = some o → H' b = some o) ∧ H S = none ∧ (∀ t ∈ bs, H t = none) ∧ S ∉ bs ∧ H' S = some (.lst (bs.map V.ref)) ∧ Paired (fun (t : Addr) (q : V × V) => H' t = some (.tup [q.1, q.2])) bs qs ∧ Inv X pins σ H' { s with heap := h', toks := tk } := by
  have hSn : S ∉ bs := fun z => (new0 _ z).2 rfl
  have new : ∀ t ∈ bs, H t = none := fun t ht => I.hok.fresh (new0 t ht).1
  have newS : H S = none := I.hok.fresh hS0
  have atP := putQ_at bs qs (upd H S (.lst (bs.map V.ref))) (Paired.length hp) nd
  have off : ∀ b, b ∉ bs → b ≠ S → putQ (upd H S (.lst (bs.map V.ref))) bs qs b = H b := fun b h1 h2 => by rw [putQ_off bs qs _ h1, upd_ne h2]
  have low : ∀ b o, s.heap.get? b = some o → b ∉ bs ∧ b ≠ S := fun b o e => ⟨fun z => absurd (Heap.lt_size e) (Nat.not_lt.mpr (new0 b z).1), Nat.ne_of_lt (Nat.lt_of_lt_of_le (Heap.lt_size e) hS0)⟩
  have kp : ∀ b u, H b = some u → (putQ (upd H S (.lst (bs.map V.ref))) bs qs) b = some u := fun b u e => by
    rw [off b (fun z => by rw [new b z] at e; cases e) (fun z => by rw [z, newS] at e; cases e)]
    exact e
  have eS : putQ (upd H S (.lst (bs.map V.ref))) bs qs S = some (.lst (bs.map V.ref)) := by rw [putQ_off bs qs _ hSn, upd_same]
  refine ⟨putQ (upd H S (.lst (bs.map V.ref))) bs qs, kp, newS, new, hSn, eS, atP, ?_⟩
  refine I.call' (ch := []) rfl ⟨fun b o q _ _ _ => hk b o q, fun b o q _ _ _ => ⟨o.slots, hk b o q⟩, fun b o q n _ => ?_, fun b o q _ => ⟨o, hk b o q⟩, fun b xs q => kp b _ q, fun b o u q => kp b _ q, fun b ps q => ⟨#[], by rw [kp b _ q]; simp⟩⟩ (fun b u q => ?_) I.bare fun b z => by simp at z
  · obtain ⟨z1, z2⟩ := low b o q
    rw [off b z1 z2]
    exact n
  · by_cases hb : b ∈ bs
    · obtain ⟨j, pk, e1, e2, e3⟩ := LiI.paired_ix atP hb
      rw [e3] at q
      cases q
      obtain ⟨pk', e4, u, v, r1, r2, e5⟩ := LiI.paired_get hp e1
      rw [e2] at e4
      cases e4
      exact ⟨by show 2 ≤ sizeLine; decide, [u, v], .cons r1 (.cons r2 .nil), ⟨_, e5, rfl, _, rfl⟩⟩
    · by_cases hb2 : b = S
      · rw [hb2] at q ⊢
        rw [eS] at q
        cases q
        refine ⟨by rw [List.length_map]; exact hz, acc.toList, c, by rw [hacc]; exact LiI.vals_refs bs, ?_⟩
        rw [Array.toArray_toList]
        exact hS
      · rw [off b hb hb2] at q
        exact (I.hok b u q).stay (fun d v _ y => hk d v y) (fun d y => kp d _ y) fun d xs y => kp d _ y
theorem zg_paired {us vs : List Value} {xs ys : List V} {lo : Addr} {h : Heap} (ru : Vals xs us) (rv : Vals ys vs) : ∀ {bs : List Addr} , ZG us.toArray vs.toArray lo h bs → bs.length = min us.toArray.size vs.toArray.size →
    Paired (fun (b : Addr) (q : V × V) => ∃ u v, RelV q.1 u ∧ RelV q.2 v ∧ h.get? b = some { cls := .type "tuple", data := .seq #[u, v] }) bs (xs.zip ys) := by
  intro bs g hl
  have key : ∀ (n k : Nat) (cs : List Addr) (ps : List (V × V)), cs.length = ps.length → cs.length = n → (∀ j a, cs[j]? = some a → bs[k + j]? = some a) → (∀ j q, ps[j]? = some q → (xs.zip ys)[k + j]? = some q) →
      Paired (fun (b : Addr) (q : V × V) => ∃ u v, RelV q.1 u ∧ RelV q.2 v ∧ h.get? b = some { cls := .type "tuple", data := .seq #[u, v] }) cs ps := by
    intro n
    induction n with
    | zero =>
      intro k cs ps h1 h2 _ _
      cases List.eq_nil_of_length_eq_zero h2
      cases List.eq_nil_of_length_eq_zero (h1.symm.trans h2)
      exact .nil
    | succ n ih =>
      intro k cs ps h1 h2 h3 h4
      match cs, ps, h1, h2, h3, h4 with
      | c :: cs, p :: ps, h1, h2, h3, h4 =>
        refine .cons ?_ (ih (k + 1) cs ps (by simpa using h1) (by simpa using h2) (fun j a e => by rw [Nat.add_right_comm]; exact h3 (j + 1) a e) fun j q e => by rw [Nat.add_right_comm]; exact h4 (j + 1) q e)
        have e1 := h3 0 c rfl
        have e2 := h4 0 p rfl
        obtain ⟨u, v, g1, g2, g3⟩ := g.pairs _ c e1
        have e3 := List.getElem?_zip_eq_some.mp e2
        obtain ⟨u', hu', r1⟩ := ru.get e3.1
        obtain ⟨v', hv', r2⟩ := rv.get e3.2
        rw [show us.toArray[k + 0]? = us[k + 0]? by simp, hu'] at g1
        rw [show vs.toArray[k + 0]? = vs[k + 0]? by simp, hv'] at g2
        cases g1
        cases g2
        exact ⟨_, _, r1, r2, g3⟩
  have l1 := ru.length
  have l2 := rv.length
  have lz : (xs.zip ys).length = bs.length := by rw [List.length_zip, hl]; simp [l1, l2]
  refine key _ 0 bs (xs.zip ys) lz.symm rfl (fun j a e => by rw [Nat.zero_add]; exact e) fun j q e => by rw [Nat.zero_add]; exact e
end
end Zl
namespace Zl
open PySem PySem.Spec PyProof.Rows L2 PySem.Calls
def rZipL (K : PySem.W.Frag) : List V → Hp → VK → Prop := fun vs H Q => ∃ (a b : Addr) (xs ys : List V), vs = [.ref a, .ref b] ∧ SqL K H a xs ∧ SqL K H b ys ∧
  ∀ (H' : Hp) (p : Addr) (ts : List Addr), (∀ b o, H b = some o → H' b = some o) → H p = none → (∀ t ∈ ts, H t = none) → p ∉ ts → H' p = some (.lst (ts.map V.ref)) → Paired (fun (t : Addr) (q : V × V) => H' t = some (.tup [q.1, q.2])) ts (xs.zip ys) → Q (.ref p) H'
def tListZip (K : PySem.W.Frag) (ta : TA) : TE := fun σ H Q => ta σ H fun vs H1 => rZipL K vs H1 Q
section
variable {X : Cx} {e1 e2 : Expr} {ta : TA} {p p2 pos pos2 : Pos}
theorem pe_listZip (hc : X.calm = true) (ha : PA X [e1, e2] ta) (hg : Gl X "list") (hm : X.mg "list" = none) (hv : bootBuiltins "list" = some (.type "list")) (hgz : Gl X "zip") (hmz : X.mg "zip" = none)
    (hs : starEach [.Call (.Name "zip" p2) [e1, e2] [] pos2] X.env = (false, eval (.Call (.Name "zip" p2) [e1, e2] [] pos2) X.env) :: starEach [] X.env := by rfl)
    (hs2 : starEach [e1, e2] X.env = (false, eval e1 X.env) :: starEach [e2] X.env := by rfl) (hpl : (backTo pos2 (starEach [e2] X.env)).any (·.1) = false := by rfl) :
    PE X (.Call (.Name "list" p) [.Call (.Name "zip" p2) [e1, e2] [] pos2] [] pos) (tListZip X.K ta) := by
  refine ⟨fun pins s σ H Q I hq => ?_⟩
  refine wpAny_Call_Name_kw (ld_blt I hg hm hv ?_)
  refine PyProof.Rows.callWith_type1 ?_ hs rfl
  rw [hs]
  show wpAny _ _ (spliced ((false, eval (.Call (.Name "zip" p2) [e1, e2] [] pos2) X.env) :: backTo pos (starEach [] X.env))) _ _ s
  refine Calls.spliced_cons ?_
  refine Call_ (ld_blt I hgz hmz PyProof.Rows.boot_zip (PyProof.Rows.callWith_type1 (thn (ha.run pos2 pins s σ H _ I hq) fun us s1 ⟨vs, H1, I1, r1, q1⟩ => ?_) hs2 hpl))
  obtain ⟨a, b, xs, ys, ex, hqx, hqy, q⟩ := q1
  subst ex
  cases r1 with
  | cons r rr =>
    cases rr with
    | cons r' rr =>
      cases rr
      cases r
      cases r'
      obtain ⟨its, rv, p1, z1⟩ := I1.list hqx
      obtain ⟨its2, rv2, p22, z2⟩ := I1.list hqy
      refine call_zip_2 p1.isList p22.isList fun h' hz hTI hTO h1 h2 hsz hk => ?_
      have Z : ZNew (s1.heap.objs.size + 4) (s1.heap.objs.size + 2) (s1.heap.objs.size + 3) s1.heap.objs.size (s1.heap.objs.size + 1) a b its.toArray its2.toArray h' :=
        ⟨hz, hTI, hTO, h1, h2, p1.isList.at fun o e => hk _ o e, p22.isList.at fun o e => hk _ o e⟩
      have l1 := rv.length
      have l2 := rv2.length
      have hmin : min its.toArray.size its2.toArray.size ≤ sizeLine := by
        refine Nat.le_trans (Nat.min_le_left _ _) ?_
        show its.length ≤ _
        omega
      refine Calls.spliced_nil ?_
      refine z_call (s := { s1 with heap := h' }) (I1.ok.hd hc) (PySem.W.ktu_apart s1.heap.objs.size a b p1.lt p22.lt) Z hmin fun h'' tk acc c as hk2 hS hl hG hacc => ?_
      have hsz : h'.objs.size = s1.heap.objs.size + 5 := hsz
      have hk3 : ∀ b o, s1.heap.get? b = some o → h''.get? b = some o := fun b o e => hk2 b o (fun m => by
        have lt : b < s1.heap.objs.size := Heap.lt_size e
        have ge : s1.heap.objs.size ≤ b := by
          simp only [List.mem_cons, List.not_mem_nil, or_false] at m
          rcases m with z | z | z | z
          · rw [z]; exact Nat.le_add_right _ _
          · rw [z]; exact Nat.le_add_right _ _
          · rw [z]; exact Nat.le_refl _
          · rw [z]; exact Nat.le_add_right _ _
        exact Nat.lt_irrefl _ (Nat.lt_of_lt_of_le lt ge)) (hk b o e)
      obtain ⟨H', k1, k2, k3, k4, k5, k6, J⟩ := pairs_laid (tk := tk) (S := h'.objs.size) (bs := as) I1 (by rw [hl]; exact hmin) (show s1.heap.objs.size ≤ h'.objs.size by rw [hsz]; exact Nat.le_add_right _ _) hk3 hS hacc (List.Pairwise.imp (fun {a b} (h : a < b) => Nat.ne_of_lt h) hG.rise)
        (fun b hb => ⟨Nat.le_trans (show s1.heap.objs.size ≤ h'.objs.size by rw [hsz]; exact Nat.le_add_right _ _) (Nat.le_of_lt (hG.above b hb)), Nat.ne_of_gt (hG.above b hb)⟩) (zg_paired rv rv2 hG hl)
      exact ⟨.ref _, H', J, rfl, q H' _ as k1 k2 k3 k4 k5 k6⟩
end
end Zl
namespace PD
open PySem PySem.Spec PyProof.Rows L2 GF
section
variable {X : Cx} {G : Gc} {ms lk : List Nat} {ka kb : Kd} {bs E Ea Eb : List Nat} {XE : XK} {pos pos2 p p2 : Pos} {a b : Expr} {cs : DA} {k1 k2 : Kd}
theorem tup_fz {Z H' : Hp} : ∀ {ts : List Addr} {xs ys : List V} {ds es : List D}, Paired (fun (t : Addr) (q : V × V) => H' t = some (.tup [q.1, q.2])) ts (xs.zip ys) → FzA G.K G.CA Z ds xs → FzA G.K G.CA Z es ys → (∀ t ∈ ts, ∀ o, H' t = some (.tup o) → Z t = some (.tup o)) →
    FzA G.K G.CA Z ((ds.zip es).map fun q => .tup [q.1, q.2]) (ts.map V.ref)
  | ts, xs, ys, [], es, h, h1, h2, f => by
    rw [show xs = [] from h1] at h
    cases h
    rfl
  | ts, xs, ys, d :: ds, [], h, h1, h2, f => by
    rw [show ys = [] from h2, List.zip_nil_right] at h
    cases h
    rfl
  | ts, xs, ys, d :: ds, e :: es, h, h1, h2, f => by
    obtain ⟨x, xr, rfl, g1, g2⟩ := h1
    obtain ⟨y, yr, rfl, g3, g4⟩ := h2
    rw [List.zip_cons_cons] at h
    cases h with
    | cons h0 ht =>
      refine ⟨_, _, rfl, ⟨_, _, rfl, f _ List.mem_cons_self _ h0, by show 2 ≤ sizeLine; decide, x, [y], rfl, g1, y, [], rfl, g3, rfl⟩, tup_fz ht g2 g4 fun t ht' => f t (List.mem_cons_of_mem _ ht')⟩
def gZipL : List D → Option D
  | [.lst ds, .lst es] => if ds.length ≤ sizeLine then some (.lst ((ds.zip es).map fun q => .tup [q.1, q.2])) else none
  | _ => none
theorem se_listZip (hg : Gl X "list") (hm : X.mg "list" = none) (hgz : Gl X "zip") (hmz : X.mg "zip" = none) (ha : PA X [a, b] (tA G ms lk [k1, k2] E XE cs)) (hc : X.calm = true := by rfl) (ok1 : k1.okc = true := by rfl) (hc1 : k1.chi = .own 0 := by rfl) (ok2 : k2.okc = true := by rfl) (hc2 : k2.chi = .own 0 := by rfl) (hK : X.K = G.K := by rfl) (hb : bootBuiltins "list" = some (.type "list") := by decide +kernel)
    (hs : starEach [.Call (.Name "zip" p2) [a, b] [] pos2] X.env = (false, eval (.Call (.Name "zip" p2) [a, b] [] pos2) X.env) :: starEach [] X.env := by rfl)
    (hs2 : starEach [a, b] X.env = (false, eval a X.env) :: starEach [b] X.env := by rfl) (hpl : (backTo pos2 (starEach [b] X.env)).any (·.1) = false := by rfl) :
    PE X (.Call (.Name "list" p) [.Call (.Name "zip" p2) [a, b] [] pos2] [] pos) (tD G ms lk (.own 1) E XE (dN gZipL cs)) := PE.weak (Zl.pe_listZip hc ha hg hm hb hgz hmz hs hs2 hpl) fun σ H Q ⟨w, env, o, hH, R, ho, F⟩ => by
  rw [← hH]
  refine tA.bind R ho F (fun _ z => z) fun w1 env1 ds vs L R1 x1 V1 n1 ho1 F1 => ?_
  obtain ⟨z, hz, rfl⟩ := lf_some ho1
  obtain ⟨d1, r1, v1, vs1, L1, L1', rfl, e2, rfl, h1, h2, _⟩ := V1
  obtain ⟨d2, r2, v2, vs2, L2, L2', rfl, e4, rfl, h3, h4, _⟩ := h2
  obtain ⟨rfl, rfl, rfl⟩ := h4
  unfold gZipL at hz
  split at hz
  rotate_left
  · cases hz
  rename_i ds es hde
  cases hde
  split at hz
  rotate_left
  · cases hz
  rename_i hl
  cases hz
  obtain ⟨a0, xs, rfl, g1, g2, g3⟩ := h1.kids ok1 hc1 R1.sub
  obtain ⟨b0, ys, rfl, g4, g5, g6⟩ := h3.kids ok2 hc2 R1.sub
  refine ⟨a0, b0, xs, ys, by rw [e2, e4], .inl (.inl g1), .inl (.inl g4), fun H' q ts hk hq ht hqt hH' hp => ?_⟩
  obtain ⟨R2, x2⟩ := R1.more (E := E) hk
  have zq : w1.Z q = none := R1.zn0 hq
  have zq2 : zT w1.Z H' q = none := by unfold zT; rw [zq, hH']
  refine F1 ⟨zT w1.Z H', H', w1.Ls⟩ (.ref q) [q] R2 x2 ⟨⟨q, ts.map V.ref, [], rfl, unl_of hH' rfl, by rw [List.length_map, List.length_zip]; exact Nat.le_trans (Nat.min_le_left _ _) hl, rfl, fz_al0 (tup_fz hp (g3.same zT_same) (g6.same zT_same) fun t ht' xs e => zT_at e fun o e2 => by rw [R1.zn0 (ht t ht')] at e2; cases e2)⟩, by simp, fun b hb' => ?_⟩ fun b hb' hn => ?_
  · cases (by simpa using hb' : b = q)
    exact ⟨zq2, fun j z => R1.there z hq, by show unl H' _ = H' _; rw [unl_of hH' rfl]; exact hH'.symm⟩
  · cases (by simpa using hb' : b = q)
    exact absurd hq hn
end
end PD
namespace Zl
open PySem PySem.Spec PyProof.Rows L2 PySem.Calls SrtO TS
/-! ### sorted(zip(xs, ys)) of texts -/
/-- pairs of texts by their first, then by their second -/
def lexS (p q : Str × Str) : Bool := if p.1 = q.1 then decide (p.2.cps.toList < q.2.cps.toList) else decide (p.1.cps.toList < q.1.cps.toList)
theorem lt_irr (a : List Nat) : ¬ a < a := List.lt_irrefl a
theorem lex_iff {p q : Str × Str} : lexS p q = true ↔ p.1.cps.toList < q.1.cps.toList ∨ (p.1 = q.1 ∧ p.2.cps.toList < q.2.cps.toList) := by
  unfold lexS
  by_cases e : p.1 = q.1
  · rw [if_pos e, decide_eq_true_eq]
    constructor
    · exact fun h => .inr ⟨e, h⟩
    · rintro (h | h)
      · rw [e] at h; exact absurd h (lt_irr _)
      · exact h.2
  · rw [if_neg e, decide_eq_true_eq]
    constructor
    · exact fun h => .inl h
    · rintro (h | h)
      · exact h
      · exact absurd h.1 e
theorem str_ext {a b : Str} (h : a.cps.toList = b.cps.toList) : a = b := by
  obtain ⟨⟨a⟩⟩ := a
  obtain ⟨⟨b⟩⟩ := b
  cases (show a = b from h)
  rfl
theorem tri (a b : Str) : a.cps.toList < b.cps.toList ∨ a = b ∨ b.cps.toList < a.cps.toList := by
  by_cases h1 : a.cps.toList < b.cps.toList
  · exact .inl h1
  · by_cases h2 : b.cps.toList < a.cps.toList
    · exact .inr (.inr h2)
    · exact .inr (.inl (str_ext (List.le_antisymm (List.not_lt.mp h2) (List.not_lt.mp h1))))
theorem lex_asym {p q : Str × Str} (h : lexS p q = true) : lexS q p = false := by
  cases e : lexS q p with
  | false => rfl
  | true =>
    rw [lex_iff] at h e
    rcases h with h | h
    · rcases e with e | e
      · exact absurd (List.lt_trans h e) (lt_irr _)
      · rw [e.1] at h; exact absurd h (lt_irr _)
    · rcases e with e | e
      · rw [h.1] at e; exact absurd e (lt_irr _)
      · exact absurd (List.lt_trans h.2 e.2) (lt_irr _)
theorem lex_tri (p q : Str × Str) : lexS p q = true ∨ p = q ∨ lexS q p = true := by
  rw [lex_iff, lex_iff]
  rcases tri p.1 q.1 with h | h | h
  · exact .inl (.inl h)
  · rcases tri p.2 q.2 with g | g | g
    · exact .inl (.inr ⟨h, g⟩)
    · exact .inr (.inl (Prod.ext h g))
    · exact .inr (.inr (.inr ⟨h.symm, g⟩))
  · exact .inr (.inr (.inl h))
theorem lex_trans {p q r : Str × Str} (h : lexS p q = true) (g : lexS q r = true) : lexS p r = true := by
  rw [lex_iff] at *
  rcases h with h | h
  · rcases g with g | g
    · exact .inl (List.lt_trans h g)
    · exact .inl (by rw [← g.1]; exact h)
  · rcases g with g | g
    · exact .inl (by rw [h.1]; exact g)
    · exact .inr ⟨h.1.trans g.1, List.lt_trans h.2 g.2⟩
theorem swo_lexS (k : Value → Str × Str) : Swo fun v u => lexS (k v) (k u) := by
  refine ⟨fun x y h => lex_asym h, fun x y z h1 h2 => ?_⟩
  have h1 : lexS (k y) (k x) = false := h1
  have h2 : lexS (k z) (k y) = false := h2
  show lexS (k z) (k x) = false
  cases e : lexS (k z) (k x) with
  | false => rfl
  | true =>
    rcases lex_tri (k x) (k y) with h | h | h
    · rw [lex_trans e h] at h2; cases h2
    · rw [h] at e; rw [e] at h2; cases h2
    · rw [h] at h1; cases h1
/-- a tuple of two texts -/
def IsPairS (h : Heap) (v : Value) (x y : Str) : Prop := ∃ a o t u n, v = .ref a ∧ h.get? a = some o ∧ o.cls = .type "tuple" ∧ o.data = .seq #[.str x t, .str y u] n
theorem IsPairS.keeps {h h' : Heap} {v : Value} {x y : Str} (p : IsPairS h v x y) (k : ∀ b o, h.get? b = some o → o.cls = .type "tuple" → h'.get? b = some o) : IsPairS h' v x y := by
  obtain ⟨a, o, t, u, n, e, ho, hc, hd⟩ := p
  exact ⟨a, o, t, u, n, e, k _ _ ho hc, hc, hd⟩
section
variable {prog : Program} {w : World} {A : Around} {E : Value → Shared → Prop} {s : Shared}
theorem pair_cmpS {vs : List Value} {k : Value → Str × Str} (hp : ∀ v ∈ vs, IsPairS s.heap v (k v).1 (k v).2) : SrtO.Cmp prog w A s (tuples' true) (fun p => p.1 ∈ vs) (lt2 fun v u => lexS (k v) (k u)) := by
  intro p q hm hm'
  have h1 := hp _ hm
  have h2 := hp _ hm'
  show wpAny (model prog w) A (keyLt' (tuples' true) p.1 q.1) (fun r s' => s' = s ∧ r = lexS (k p.1) (k q.1)) (fun _ _ => False) s
  unfold lexS
  generalize (k p.1).1 = x at h1 ⊢
  generalize (k p.1).2 = y at h1 ⊢
  generalize (k q.1).1 = x' at h2 ⊢
  generalize (k q.1).2 = y' at h2 ⊢
  obtain ⟨a, o, t, u, n, e, ho, hc, hd⟩ := h1
  obtain ⟨a', o', t', u', n', e', ho', hc', hd'⟩ := h2
  rw [e, e']
  refine PySem.W.kat_lt ho hd ho' hd' ?_
  show PySem.W.KatLex prog w A true (decide (2 < 2)) _ [(.str x t, .str x' t'), (.str y u, .str y' u')] 0 s
  refine PySem.W.kat_cons (SeqAt.EqAt.str_str x t x' t' prog w _ _ ?_)
  refine PySem.W.kat_go (fun e1 => ?_) (fun e1 => ?_)
  · have ex : x = x' := by simpa using e1
    refine PySem.W.kat_yes (PySem.W.kat_cons (SeqAt.EqAt.str_str y u y' u' prog w _ _ ?_))
    refine PySem.W.kat_go (fun e2 => ?_) (fun e2 => ?_)
    · have ey : y = y' := by simpa using e2
      have e3 : (if x = x' then decide (y.cps.toList < y'.cps.toList) else decide (x.cps.toList < x'.cps.toList)) = false := by
        rw [if_pos ex, ey]
        exact decide_eq_false (lt_irr _)
      exact PySem.W.kat_yes (PySem.W.kat_nil ⟨rfl, e3.symm⟩)
    · have e3 : (if x = x' then decide (y.cps.toList < y'.cps.toList) else decide (x.cps.toList < x'.cps.toList)) = decide (y.cps.toList < y'.cps.toList) := if_pos ex
      refine PySem.W.kat_no (PySem.W.kat_one _ _ (PyProof.Rows.lt_str ?_))
      exact (show s = s ∧ decide (y.cps.toList < y'.cps.toList) = (if x = x' then decide (y.cps.toList < y'.cps.toList) else decide (x.cps.toList < x'.cps.toList)) from ⟨rfl, e3.symm⟩)
  · have ex : ¬ x = x' := by simpa using e1
    have e3 : (if x = x' then decide (y.cps.toList < y'.cps.toList) else decide (x.cps.toList < x'.cps.toList)) = decide (x.cps.toList < x'.cps.toList) := if_neg ex
    exact PySem.W.kat_no (oneLt_str ⟨rfl, e3.symm⟩)
theorem firsts_ofS {h : Heap} : ∀ {vs : List Value}, (∀ v ∈ vs, ∃ x y, IsPairS h v x y) → ∃ fs, PySem.W.KatTups h vs fs ∧ fs.length = vs.length ∧ ∀ f, f ∈ fs → ∃ n t, f = Value.str n t
  | [], _ => ⟨[], PySem.W.KatTups.nil, rfl, fun f hf => by simp at hf⟩
  | v :: vs, x => by
    obtain ⟨fs, k, hl, hi⟩ := firsts_ofS (vs := vs) fun u hu => x u (List.mem_cons_of_mem _ hu)
    obtain ⟨p, q, a, o, t, u, n, rfl, ho, hc, hd⟩ := x v List.mem_cons_self
    refine ⟨.str p t :: fs, PySem.W.KatTups.cons ho hc hd rfl k, by simp [hl], fun f hf => ?_⟩
    rcases List.mem_cons.mp hf with rfl | hf
    · exact ⟨p, t, rfl⟩
    · exact hi f hf
theorem pairs_sortableS {a : Addr} {vs : List Value} {k : Value → Str × Str} (h0 : 0 < vs.length) (hp : ∀ v ∈ vs, IsPairS s.heap v (k v).1 (k v).2) (ha : ∀ o, s.heap.get? a = some o → o.cls ≠ .type "tuple") : SortableO prog w A s a vs fun v u => lexS (k v) (k u) := by
  intro h' keep
  have hp' : ∀ v ∈ vs, IsPairS h' v (k v).1 (k v).2 := fun v hm => (hp v hm).keeps fun b o e c => keep b o (fun z => by subst z; exact ha o e c) e
  obtain ⟨fs, h1, h2, h3⟩ := firsts_ofS fun v hm => ⟨_, _, hp' v hm⟩
  refine ⟨tuples' true, fun Q E hq => ?_, pair_cmpS hp'⟩
  refine PySem.W.kat_kind (T := .type "str") h1 (by omega) (fun f hm => ?_) (by rfl) ?_
  · obtain ⟨x, t, rfl⟩ := h3 f hm
    exact PySem.W.Looks.now
  · have e : (Value.type "str" != Value.type "tuple") = true := by first | decide +kernel | rfl | decide
    rw [e]
    exact hq
end
end Zl
namespace Zl
open PySem PySem.Spec PyProof.Rows L2 PySem.Calls SrtO TS
def kOf (h : Heap) (v : Value) : Str × Str := match v with
  | .ref a => match h.get? a with
    | some o => match o.data with
      | .seq xs _ => match xs.toList with
        | [.str x _, .str y _] => (x, y)
        | _ => ("", "")
      | _ => ("", "")
    | none => ("", "")
  | _ => ("", "")
theorem kOf_at {h : Heap} {a : Addr} {o : Obj} {x y : Str} {t u : Tok} {n : Nat} (ho : h.get? a = some o) (hd : o.data = .seq #[.str x t, .str y u] n) : kOf h (.ref a) = (x, y) := by
  unfold kOf
  dsimp only
  rw [ho]
  dsimp only
  rw [hd]
section
variable {prog : Program} {w : World} {A : Around} {E : Value → Shared → Prop} {s : Shared} {z TI TO i1 i2 l1 l2 S : Addr} {xs ys : Array Value}
theorem zg_pairS {h : Heap} {as : List Addr} (hX : ∀ (i : Nat) u, xs[i]? = some u → ∃ x t, u = Value.str x t) (hY : ∀ (i : Nat) u, ys[i]? = some u → ∃ x t, u = Value.str x t) (g : ZG xs ys S h as) : ∀ v ∈ as.map Value.ref, IsPairS h v (kOf h v).1 (kOf h v).2 := by
  intro v hv
  obtain ⟨a, ha, rfl⟩ := List.mem_map.mp hv
  obtain ⟨j, hj⟩ := List.mem_iff_getElem?.mp ha
  obtain ⟨x, y, e1, e2, e3⟩ := g.pairs j a hj
  obtain ⟨p, t, rfl⟩ := hX _ _ e1
  obtain ⟨q, u, rfl⟩ := hY _ _ e2
  have := kOf_at (x := p) (y := q) e3 rfl
  rw [this]
  exact ⟨a, _, t, u, _, rfl, e3, rfl, rfl⟩
theorem sorted_zip {Q : Value → Shared → Prop} (hh : A.handled = none) (D : ZipApart z TI TO i1 i2 l1 l2) (Z : ZNew z TI TO i1 i2 l1 l2 xs ys s.heap) (hn : min xs.size ys.size ≤ sizeLine) (hX : ∀ (i : Nat) u, xs[i]? = some u → ∃ x t, u = Value.str x t) (hY : ∀ (i : Nat) u, ys[i]? = some u → ∃ x t, u = Value.str x t)
    (h : ∀ (h' h2 : Heap) (tk : Nat) (as : List Addr) (out : List Value) (B n : Nat), (∀ b o, b ∉ [z, TO, i1, i2] → s.heap.get? b = some o → h2.get? b = some o) → as.length = min xs.size ys.size → ZG xs ys s.heap.objs.size h2 as → (∀ v ∈ as.map Value.ref, kOf h2 v = kOf h' v) → Srtd (fun v u => lexS (kOf h' v) (kOf h' u)) out → out.Perm (as.map Value.ref) → s.heap.objs.size ≤ B → B ∉ as → h2.get? B = some (seqObj "list" out.toArray n) → Q (.ref B) { s with heap := h2, toks := tk }) :
    wpAny (model prog w) A (call (.builtin "sorted") [.ref z]) Q E s := by
  refine Calls.call_function_entry kind_sorted plain_sorted entry_sorted (args_sorted1 _) ?_
  unfold Builtin.«sorted»
  refine wpAny_bind (m := checkCount "sorted" 1 1 _) (wpAny_pure ?_)
  refine wpAny_bind (z_collect (A := A.in1) hh D Z hn fun h' tk as hk hl hG hlt => ?_)
  have hz : (as.map Value.ref).length ≤ sizeLine := by rw [List.length_map, hl]; exact hn
  refine wpAny_bind (wpAny_newList ?_ hz)
  have hoL : (h'.push (seqObj "list" (as.map Value.ref).toArray 0)).get? h'.objs.size = some (seqObj "list" (as.map Value.ref).toArray 0) := Heap.get?_push_size _ rfl
  have keep : ∀ b o, h'.get? b = some o → b ≠ h'.objs.size ∧ (h'.push (seqObj "list" (as.map Value.ref).toArray 0)).get? b = some o := fun b o q => ⟨Nat.ne_of_lt (Heap.lt_size q), Heap.get?_push_of_some _ q⟩
  have hp : ∀ v ∈ as.map Value.ref, IsPairS (h'.push (seqObj "list" (as.map Value.ref).toArray 0)) v (kOf h' v).1 (kOf h' v).2 := fun v hv => (zg_pairS hX hY hG v hv).keeps fun b o e _ => (keep b o e).2
  have hsz0 : s.heap.objs.size ≤ h'.objs.size := Nat.le_of_lt hlt
  show wpAny _ _ _ _ _ { s with heap := h'.push (seqObj "list" (as.map Value.ref).toArray 0), toks := tk }
  refine wpAny_bind (wpAny_holding (wpAny_call_entry slot_list_sort ⟨_, hoL, rfl⟩ entry_list_sort (list_sort_ord (swo_lexS (kOf h')) hoL hz (fun h2 => ?_) fun out hs hb => ⟨_, rfl, ?_⟩) (args_list_sort _)))
  · refine pairs_sortableS (by omega) hp fun o e => ?_
    have e' : some o = some (seqObj "list" (as.map Value.ref).toArray 0) := e.symm.trans hoL
    cases e'
    intro c
    exact absurd (Value.type.inj c) (by decide)
  · refine wpAny_pure ⟨_, rfl, ?_⟩
    obtain ⟨n, hn⟩ := sortedHeap_at (out := out.toArray) hoL
    have old : ∀ b o, h'.get? b = some o → (sortedHeap (h'.push (seqObj "list" (as.map Value.ref).toArray 0)) h'.objs.size (as.map Value.ref) out.toArray).get? b = some o := fun b o e => by
      rw [sortedHeap_old (keep b o e).1 (by rw [Heap.size_push]; exact Nat.lt_succ_of_lt (Heap.lt_size e))]
      exact (keep b o e).2
    have hG2 : ZG xs ys s.heap.objs.size (sortedHeap (h'.push (seqObj "list" (as.map Value.ref).toArray 0)) h'.objs.size (as.map Value.ref) out.toArray) as := ⟨hG.rise, hG.above, fun j a hj => by
      obtain ⟨x, y, e1, e2, e3⟩ := hG.pairs j a hj
      exact ⟨x, y, e1, e2, old a _ e3⟩⟩
    refine h h' _ tk as out h'.objs.size n (fun b o m e => old b o (hk b o m e)) hl hG2 (fun v hv => ?_) hs hb.perm hsz0 (fun m => Nat.lt_irrefl _ (hG.there m)) hn
    obtain ⟨a, ha, rfl⟩ := List.mem_map.mp hv
    obtain ⟨j, hj⟩ := List.mem_iff_getElem?.mp ha
    obtain ⟨x, y, e1, e2, e3⟩ := hG.pairs j a hj
    obtain ⟨p, t, rfl⟩ := hX _ _ e1
    obtain ⟨q, u, rfl⟩ := hY _ _ e2
    rw [kOf_at (x := p) (y := q) e3 rfl, kOf_at (x := p) (y := q) (old a _ e3) rfl]
end
end Zl
namespace Zl
open PySem PySem.Spec PyProof.Rows L2 PySem.Calls SrtO TS
def rZipS (K : PySem.W.Frag) : List V → Hp → VK → Prop := fun vs H Q => ∃ (a b : Addr) (ss tt : List Str), vs = [.ref a, .ref b] ∧ SqL K H a (ss.map V.str) ∧ SqL K H b (tt.map V.str) ∧
  ∀ (H' : Hp) (p : Addr) (ts : List Addr) (qs : List (Str × Str)), qs.Perm (ss.zip tt) → qs.Pairwise (fun p q => lexS q p = false) → (∀ b o, H b = some o → H' b = some o) → H p = none → (∀ t ∈ ts, H t = none) → p ∉ ts → H' p = some (.lst (ts.map V.ref)) → Paired (fun (t : Addr) (q : Str × Str) => H' t = some (.tup [.str q.1, .str q.2])) ts qs → Q (.ref p) H'
def tSortedZip (K : PySem.W.Frag) (ta : TA) : TE := fun σ H Q => ta σ H fun vs H1 => rZipS K vs H1 Q
def backA : Value → Addr
  | .ref a => a
  | _ => 0
theorem back_refs : ∀ {out : List Value} {as : List Addr}, (∀ v ∈ out, v ∈ as.map Value.ref) → out = (out.map backA).map Value.ref
  | [], _, _ => rfl
  | v :: out, as, h => by
    obtain ⟨a, _, rfl⟩ := List.mem_map.mp (h v List.mem_cons_self)
    rw [List.map_cons, List.map_cons, ← back_refs fun u hu => h u (List.mem_cons_of_mem _ hu)]
    rfl
theorem vals_strs : ∀ {ss : List Str} {us : List Value}, Vals (ss.map V.str) us → ∀ (i : Nat) u, us[i]? = some u → ∃ x t, u = Value.str x t ∧ ss[i]? = some x
  | [], _, h, i, u, e => by cases h; cases e
  | s :: ss, _, h, i, u, e => by
    cases h with
    | cons r t =>
      cases i with
      | zero => cases e; obtain ⟨t, rfl⟩ := r; exact ⟨s, t, rfl, rfl⟩
      | succ i => exact vals_strs t i u e
theorem paired_map {α β : Type} {F : α → β → Prop} {f : α → β} : ∀ {xs : List α}, (∀ x ∈ xs, F x (f x)) → Paired F xs (xs.map f)
  | [], _ => .nil
  | x :: xs, h => .cons (h x List.mem_cons_self) (paired_map fun y hy => h y (List.mem_cons_of_mem _ hy))
theorem paired_imp {α β γ : Type} {F : α → β → Prop} {G : α → γ → Prop} {f : β → γ} : ∀ {xs : List α} {ys : List β}, Paired F xs ys → (∀ x y, F x y → G x (f y)) → Paired G xs (ys.map f)
  | _, _, .nil, _ => .nil
  | _, _, .cons h t, g => .cons (g _ _ h) (paired_imp t g)
section
variable {X : Cx} {e1 e2 : Expr} {ta : TA} {p p2 pos pos2 : Pos}
theorem pe_sortedZip (hc : X.calm = true) (ha : PA X [e1, e2] ta) (hg : Gl X "sorted") (hm : X.mg "sorted" = none) (hv : bootBuiltins "sorted" = some (.builtin "sorted")) (hgz : Gl X "zip") (hmz : X.mg "zip" = none)
    (hs : starEach [.Call (.Name "zip" p2) [e1, e2] [] pos2] X.env = (false, eval (.Call (.Name "zip" p2) [e1, e2] [] pos2) X.env) :: starEach [] X.env := by rfl)
    (hs2 : starEach [e1, e2] X.env = (false, eval e1 X.env) :: starEach [e2] X.env := by rfl) (hpl : (backTo pos2 (starEach [e2] X.env)).any (·.1) = false := by rfl) :
    PE X (.Call (.Name "sorted" p) [.Call (.Name "zip" p2) [e1, e2] [] pos2] [] pos) (tSortedZip X.K ta) := by
  refine ⟨fun pins s σ H Q I hq => ?_⟩
  refine wpAny_Call_Name_kw (ld_blt I hg hm hv ?_)
  refine PyProof.Rows.callWith_builtin1 ?_ hs rfl
  rw [hs]
  show wpAny _ _ (spliced ((false, eval (.Call (.Name "zip" p2) [e1, e2] [] pos2) X.env) :: backTo pos (starEach [] X.env))) _ _ s
  refine Calls.spliced_cons ?_
  refine Call_ (ld_blt I hgz hmz PyProof.Rows.boot_zip (PyProof.Rows.callWith_type1 (thn (ha.run pos2 pins s σ H _ I hq) fun us s1 ⟨vs, H1, I1, r1, q1⟩ => ?_) hs2 hpl))
  obtain ⟨a, b, ss, tt, ex, hqx, hqy, q⟩ := q1
  subst ex
  cases r1 with
  | cons r rr =>
    cases rr with
    | cons r' rr =>
      cases rr
      cases r
      cases r'
      obtain ⟨its, rv, p1, z1⟩ := I1.list hqx
      obtain ⟨its2, rv2, p22, z2⟩ := I1.list hqy
      refine call_zip_2 p1.isList p22.isList fun h' hz hTI hTO h1 h2 hsz hk => ?_
      have Z : ZNew (s1.heap.objs.size + 4) (s1.heap.objs.size + 2) (s1.heap.objs.size + 3) s1.heap.objs.size (s1.heap.objs.size + 1) a b its.toArray its2.toArray h' :=
        ⟨hz, hTI, hTO, h1, h2, p1.isList.at fun o e => hk _ o e, p22.isList.at fun o e => hk _ o e⟩
      have l1 := rv.length
      have l2 := rv2.length
      have hmin : min its.toArray.size its2.toArray.size ≤ sizeLine := by
        refine Nat.le_trans (Nat.min_le_left _ _) ?_
        show its.length ≤ _
        omega
      refine Calls.spliced_nil ?_
      refine sorted_zip (s := { s1 with heap := h' }) (I1.ok.hd hc) (PySem.W.ktu_apart s1.heap.objs.size a b p1.lt p22.lt) Z hmin (fun i u e => ?_) (fun i u e => ?_) fun h0 h'' tk as out B n hk2 hl hG hkk hsr hpm hB0 hBn hB => ?_
      · obtain ⟨x, t, e1, _⟩ := vals_strs rv i u (by simpa using e)
        exact ⟨x, t, e1⟩
      · obtain ⟨x, t, e1, _⟩ := vals_strs rv2 i u (by simpa using e)
        exact ⟨x, t, e1⟩
      have hsz : h'.objs.size = s1.heap.objs.size + 5 := hsz
      have hB0 : h'.objs.size ≤ B := hB0
      have le1 : s1.heap.objs.size ≤ h'.objs.size := by rw [hsz]; exact Nat.le_add_right _ _
      have hk3 : ∀ b o, s1.heap.get? b = some o → h''.get? b = some o := fun b o e => hk2 b o (fun m => by
        have lt : b < s1.heap.objs.size := Heap.lt_size e
        have ge : s1.heap.objs.size ≤ b := by
          simp only [List.mem_cons, List.not_mem_nil, or_false] at m
          rcases m with z | z | z | z
          · rw [z]; exact Nat.le_add_right _ _
          · rw [z]; exact Nat.le_add_right _ _
          · rw [z]; exact Nat.le_refl _
          · rw [z]; exact Nat.le_add_right _ _
        exact Nat.lt_irrefl _ (Nat.lt_of_lt_of_le lt ge)) (hk b o e)
      -- the pairs' texts
      have eo : out = (out.map backA).map Value.ref := back_refs fun v hv => hpm.mem_iff.mp hv
      have pb : (out.map backA).Perm as := by
        have := hpm.map backA
        rw [List.map_map, show (backA ∘ Value.ref) = id from rfl, List.map_id] at this
        exact this
      have nda : as.Nodup := List.Pairwise.imp (fun {a b} (h : a < b) => Nat.ne_of_lt h) hG.rise
      have kas : ∀ (j : Nat) (a : Addr), as[j]? = some a → (ss.zip tt)[j]? = some (kOf h'' (.ref a)) ∧ ∃ t u, h''.get? a = some { cls := .type "tuple", data := .seq #[.str (kOf h'' (.ref a)).1 t, .str (kOf h'' (.ref a)).2 u] } := fun j a hj => by
        obtain ⟨x, y, e1, e2, e3⟩ := hG.pairs j a hj
        obtain ⟨p, t, rfl, g1⟩ := vals_strs rv j x (by simpa using e1)
        obtain ⟨q, u, rfl, g2⟩ := vals_strs rv2 j y (by simpa using e2)
        rw [kOf_at (x := p) (y := q) e3 rfl]
        exact ⟨List.getElem?_zip_eq_some.mpr ⟨g1, g2⟩, t, u, e3⟩
      have eas : as.map (fun a => kOf h'' (.ref a)) = ss.zip tt := by
        refine List.ext_getElem? fun j => ?_
        rw [List.getElem?_map]
        cases ea : as[j]? with
        | some a => rw [(kas j a ea).1]; rfl
        | none =>
          have hj : as.length ≤ j := by
            rcases Nat.lt_or_ge j as.length with h | h
            · rw [List.getElem?_eq_getElem h] at ea; cases ea
            · exact h
          refine (List.getElem?_eq_none ?_).symm
          have l1 : (ss.map V.str).length = its.length := rv.length
          have l2 : (tt.map V.str).length = its2.length := rv2.length
          rw [List.length_map] at l1 l2
          rw [List.length_zip, l1, l2]
          rw [hl] at hj
          exact hj
      obtain ⟨H', k1, k2, k3, k4, k5, k6, J⟩ := pairs_laid (tk := tk) (S := B) (bs := out.map backA) (acc := out.toArray) (qs := ((out.map backA).map fun a => kOf h'' (.ref a)).map fun q => (V.str q.1, V.str q.2)) I1 (by rw [pb.length_eq, hl]; exact hmin) (Nat.le_trans le1 hB0) hk3 hB (by rw [← eo]) (pb.nodup_iff.mpr nda)
        (fun b hb => ⟨Nat.le_trans le1 (Nat.le_of_lt (hG.above b (pb.mem_iff.mp hb))), fun e => hBn (e ▸ pb.mem_iff.mp hb)⟩) (by
          rw [List.map_map]
          refine paired_map fun b hb => ?_
          obtain ⟨j, hj⟩ := List.mem_iff_getElem?.mp (pb.mem_iff.mp hb)
          obtain ⟨_, t, u, e⟩ := kas j b hj
          exact ⟨_, _, ⟨t, rfl⟩, ⟨u, rfl⟩, e⟩)
      refine ⟨.ref _, H', J, rfl, q H' _ _ ((out.map backA).map fun a => kOf h'' (.ref a)) ?_ ?_ k1 k2 k3 k4 k5 ?_⟩
      · rw [← eas]
        exact pb.map _
      · have h1 : out.Pairwise fun v u => lexS (kOf h0 u) (kOf h0 v) = false := hsr
        rw [eo, List.pairwise_map] at h1
        rw [List.pairwise_map]
        refine h1.imp_of_mem fun {a b} ha hb h => ?_
        rw [hkk _ (List.mem_map.mpr ⟨a, pb.mem_iff.mp ha, rfl⟩), hkk _ (List.mem_map.mpr ⟨b, pb.mem_iff.mp hb, rfl⟩)]
        exact h
      · have key : ∀ {bs : List Addr} {qs : List (Str × Str)}, Paired (fun (t : Addr) (q : V × V) => H' t = some (.tup [q.1, q.2])) bs (qs.map fun q => (V.str q.1, V.str q.2)) → Paired (fun (t : Addr) (q : Str × Str) => H' t = some (.tup [.str q.1, .str q.2])) bs qs := by
          intro bs qs
          induction qs generalizing bs with
          | nil => intro h; cases h; exact .nil
          | cons q qs ih => intro h; cases h with | cons h0 ht => exact .cons h0 (ih ht)
        exact key k6
end
end Zl
namespace PD
open PySem PySem.Spec PyProof.Rows L2 GF Zl
section
variable {X : Cx} {G : Gc} {ms lk : List Nat} {bs E Ea Eb : List Nat} {XE : XK} {pos pos2 p p2 : Pos} {a b : Expr} {cs : DA} {k1 k2 : Kd}
def leP (p q : Str × Str) : Bool := !lexS q p
def sortP (qs : List (Str × Str)) : List (Str × Str) := qs.mergeSort leP
theorem leP_trans (a b c : Str × Str) (h1 : leP a b = true) (h2 : leP b c = true) : leP a c = true := by
  unfold leP at *
  rw [Bool.not_eq_true'] at *
  cases e : lexS c a with
  | false => rfl
  | true =>
    rcases lex_tri a b with h | h | h
    · rw [lex_trans e h] at h2; cases h2
    · rw [h] at e; rw [e] at h2; cases h2
    · rw [h] at h1; cases h1
theorem leP_total (a b : Str × Str) : (leP a b || leP b a) = true := by
  unfold leP
  cases e : lexS b a with
  | false => rfl
  | true => rw [lex_asym e]; rfl
theorem leP_anti {a b : Str × Str} (h1 : leP a b = true) (h2 : leP b a = true) : a = b := by
  unfold leP at *
  rw [Bool.not_eq_true'] at *
  rcases lex_tri a b with h | h | h
  · rw [h] at h2; cases h2
  · exact h
  · rw [h] at h1; cases h1
theorem sortP_eq {xs ys : List (Str × Str)} (hp : ys.Perm xs) (h : ys.Pairwise fun a b => leP a b = true) : ys = sortP xs :=
  List.Perm.eq_of_pairwise (le := fun a b => leP a b = true) (fun a b _ _ h1 h2 => leP_anti h1 h2) h (List.pairwise_mergeSort leP_trans leP_total xs) (hp.trans (List.mergeSort_perm xs leP).symm)
theorem sortP_perm (xs : List (Str × Str)) : (sortP xs).Perm xs := List.mergeSort_perm xs leP
theorem sortP_pw (xs : List (Str × Str)) : (sortP xs).Pairwise fun a b => leP a b = true := List.pairwise_mergeSort leP_trans leP_total xs
theorem tup_fzS {Z H' : Hp} : ∀ {ts : List Addr} {qs : List (Str × Str)}, Paired (fun (t : Addr) (q : Str × Str) => H' t = some (.tup [.str q.1, .str q.2])) ts qs → (∀ t ∈ ts, ∀ o, H' t = some (.tup o) → Z t = some (.tup o)) →
    FzA G.K G.CA Z (qs.map fun q => .tup [.str q.1, .str q.2]) (ts.map V.ref)
  | _, _, .nil, _ => rfl
  | _, _, .cons h0 ht, f => ⟨_, _, rfl, ⟨_, _, rfl, f _ List.mem_cons_self _ h0, by show 2 ≤ sizeLine; decide, _, _, rfl, rfl, _, _, rfl, rfl, rfl⟩, tup_fzS ht fun t ht' => f t (List.mem_cons_of_mem _ ht')⟩
def gSortZ : List D → Option D
  | [.lst ds, .lst es] => if ds.length ≤ sizeLine then (strsOf ds).bind fun ss => (strsOf es).map fun tt => .lst ((sortP (ss.zip tt)).map fun q => .tup [.str q.1, .str q.2]) else none
  | _ => none
theorem se_sortedZip (hg : Gl X "sorted") (hm : X.mg "sorted" = none) (hgz : Gl X "zip") (hmz : X.mg "zip" = none) (ha : PA X [a, b] (tA G ms lk [k1, k2] E XE cs)) (hc : X.calm = true := by rfl) (ok1 : k1.okc = true := by rfl) (hc1 : k1.chi = .own 0 := by rfl) (ok2 : k2.okc = true := by rfl) (hc2 : k2.chi = .own 0 := by rfl) (hK : X.K = G.K := by rfl) (hb : bootBuiltins "sorted" = some (.builtin "sorted") := by decide +kernel)
    (hs : starEach [.Call (.Name "zip" p2) [a, b] [] pos2] X.env = (false, eval (.Call (.Name "zip" p2) [a, b] [] pos2) X.env) :: starEach [] X.env := by rfl)
    (hs2 : starEach [a, b] X.env = (false, eval a X.env) :: starEach [b] X.env := by rfl) (hpl : (backTo pos2 (starEach [b] X.env)).any (·.1) = false := by rfl) :
    PE X (.Call (.Name "sorted" p) [.Call (.Name "zip" p2) [a, b] [] pos2] [] pos) (tD G ms lk (.own 1) E XE (dN gSortZ cs)) := PE.weak (Zl.pe_sortedZip hc ha hg hm hb hgz hmz hs hs2 hpl) fun σ H Q ⟨w, env, o, hH, R, ho, F⟩ => by
  rw [← hH]
  refine tA.bind R ho F (fun _ z => z) fun w1 env1 ds vs L R1 x1 V1 n1 ho1 F1 => ?_
  obtain ⟨z, hz, rfl⟩ := lf_some ho1
  obtain ⟨d1, r1, v1, vs1, L1, L1', rfl, e2, rfl, h1, h2, _⟩ := V1
  obtain ⟨d2, r2, v2, vs2, L2, L2', rfl, e4, rfl, h3, h4, _⟩ := h2
  obtain ⟨rfl, rfl, rfl⟩ := h4
  unfold gSortZ at hz
  split at hz
  rotate_left
  · cases hz
  rename_i ds es hde
  cases hde
  split at hz
  rotate_left
  · cases hz
  rename_i hl
  obtain ⟨ss, hss, hz⟩ := Option.bind_eq_some_iff.mp hz
  obtain ⟨tt, htt, hz⟩ := Option.map_eq_some_iff.mp hz
  cases hz
  obtain ⟨a0, xs, rfl, g1, g2, g3⟩ := h1.kids ok1 hc1 R1.sub
  obtain ⟨b0, ys, rfl, g4, g5, g6⟩ := h3.kids ok2 hc2 R1.sub
  have ex := strsOf_fz g3 hss
  have ey := strsOf_fz g6 htt
  have el : ss.length = ds.length := by have := g3.len; rw [ex, List.length_map] at this; exact this
  refine ⟨a0, b0, ss, tt, by rw [e2, e4], by rw [← ex]; exact .inl (.inl g1), by rw [← ey]; exact .inl (.inl g4), fun H' q ts qs hpm hpw hk hq ht hqt hH' hp => ?_⟩
  obtain ⟨R2, x2⟩ := R1.more (E := E) hk
  have zq : w1.Z q = none := R1.zn0 hq
  have zq2 : zT w1.Z H' q = none := by unfold zT; rw [zq, hH']
  have eq : qs = sortP (ss.zip tt) := sortP_eq hpm (hpw.imp fun h => by unfold leP; rw [h]; rfl)
  subst eq
  refine F1 ⟨zT w1.Z H', H', w1.Ls⟩ (.ref q) [q] R2 x2 ⟨⟨q, ts.map V.ref, [], rfl, unl_of hH' rfl, by rw [List.length_map, (sortP_perm _).length_eq, List.length_zip]; exact Nat.le_trans (Nat.min_le_left _ _) (by rw [el]; exact hl), rfl, fz_al0 (tup_fzS hp fun t ht' xs e => zT_at e fun o e2 => by rw [R1.zn0 (ht t ht')] at e2; cases e2)⟩, by simp, fun b hb' => ?_⟩ fun b hb' hn => ?_
  · cases (by simpa using hb' : b = q)
    exact ⟨zq2, fun j z => R1.there z hq, by show unl H' _ = H' _; rw [unl_of hH' rfl]; exact hH'.symm⟩
  · cases (by simpa using hb' : b = q)
    exact absurd hq hn
end
end PD
namespace LvV
open PySem PySem.Spec PyProof.Rows L2 PySem.Calls
def rValsL : V → Hp → VK → Prop := fun x H Q => ∃ (d : Addr) (kvs : List (Key × V)), x = .ref d ∧ Rd H d (.dK kvs) ∧ kvs.length ≤ sizeLine ∧ ∀ p, H p = none → Q (.ref p) (upd H p (.lst (kvs.map (·.2))))
def tListVals (te : TE) : TE := fun σ H Q => te σ H fun x H1 => rValsL x H1 Q
theorem kv_get {κ : Type} : ∀ {kvs : List (κ × V)} {vs : List (κ × Value)}, KV kvs vs → ∀ {i : Nat} {k : κ} {v : V} {k' : κ} {u : Value}, kvs[i]? = some (k, v) → vs[i]? = some (k', u) → RelV v u
  | _, _, .nil, i, _, _, _, _, h, _ => by cases h
  | _, _, .cons r t, 0, _, _, _, _, h, g => by
    cases h
    cases g
    exact r.2
  | _, _, .cons r t, i + 1, _, _, _, _, h, g => kv_get t h g
section
variable {X : Cx} {e : Expr} {te : TE} {p apos cpos pos : Pos}
theorem pe_listVals (hc : X.calm = true) (he : PE X e te) (hg : Gl X "list") (hm : X.mg "list" = none) (hv : bootBuiltins "list" = some (.type "list")) (hbase : attributeBase e "values" X.env (eval e X.env) = eval e X.env := by rfl) (hline : (apos.endLine == cpos.line) = true := by rfl)
    (hs : starEach [.Call (.Attribute e "values" apos) [] [] cpos] X.env = (false, eval (.Call (.Attribute e "values" apos) [] [] cpos) X.env) :: starEach [] X.env := by rfl) :
    PE X (.Call (.Name "list" p) [.Call (.Attribute e "values" apos) [] [] cpos] [] pos) (tListVals te) := by
  refine ⟨fun pins s σ H Q I hq => ?_⟩
  refine wpAny_Call_Name_kw (ld_blt I hg hm hv ?_)
  refine PyProof.Rows.callWith_type1 ?_ hs rfl
  rw [hs]
  show wpAny _ _ (spliced ((false, eval (.Call (.Attribute e "values" apos) [] [] cpos) X.env) :: backTo pos (starEach [] X.env))) _ _ s
  refine Calls.spliced_cons ?_
  refine wpAny_Call_method (T := "dict") (id := "dict.values") hbase rfl hline F.plainAttrs_dict F.slot_dict_values F.type_dict_values (thn (he.run pins s σ H _ I hq) fun u s1 ⟨x, H1, I1, rx, d, kvs, ex, hd, hlen, q⟩ => ?_)
  subst ex
  obtain rfl : u = Value.ref d := rx
  obtain ⟨hs0, vs, ep, kv, hat⟩ : ∃ (_ : (d == sysModules) = false) (vs : List (Key × Value)) (ep : Nat), KV kvs vs ∧ s1.heap.DictAt (mixKind X.prog X.w) d vs ep := by
    rcases hd with hd | ⟨o, hd⟩
    · obtain ⟨hz, hs0, vs, kv, hdo⟩ := I1.hok d _ hd
      obtain ⟨ep, hat⟩ := hdo.dictAt
      exact ⟨hs0, vs, ep, kv, hat⟩
    · obtain ⟨hs, hgd, hx, es, ep, vs, hdt, hsz, kv, hm⟩ := I1.frzK hd
      exact ⟨hs, vs, _, kv, hm⟩
  have lk : kvs.length = vs.length := Paired.length kv
  have I2 : Inv X pins σ H1 { s1 with heap := s1.heap.push { cls := .type "dict_values", data := .fields #[.ref d] } } := I1.kept (t' := s1.toks) fun b ob q => Heap.get?_push_of_some _ q
  refine ⟨hat.dictOf.typeIs, hat.dictOf.mapOf.noDict, ?_⟩
  show wpAny _ _ (callWith cpos (.builtin "dict.values") [.ref d] [] []) _ X.xe s1
  refine method_meetsIn F.slot_dict_values F.entry_dict_values rfl (PySem.evalArgs_none ⟨rfl, hat.dictOf.typeIs, F.args_dict_values_1 _, _, meets_dict_values (mixKind X.prog X.w) d hs0, ⟨vs, hat.dictOf⟩, ?_⟩)
  refine Calls.spliced_nil ?_
  refine PySem.W.kdl_call (s := { s1 with heap := s1.heap.push { cls := .type "dict_values", data := .fields #[.ref d] } }) (PySem.W.kdl_values (knd := mixKind X.prog X.w) (kvs := vs) (ep := ep) (r := s1.heap.objs.size) (d := d)) (I1.ok.hd hc) ⟨⟨_, Heap.get?_push_size _ rfl, rfl, rfl⟩, hat.push _⟩ (by omega) fun h' tk acc c hk hS hacc => ?_
  refine ⟨.ref _, upd H1 _ (.lst (kvs.map (·.2))), I2.laid hk (Nat.le_refl _) (show ObjOk X.prog X.w _ _ _ (.lst _) from ⟨by rw [List.length_map]; exact hlen, acc.toList, c, ?_, ?_⟩), rfl, q _ (I2.hok.fresh (Nat.le_refl _))⟩
  · have el : acc.toList.length = vs.length := by rw [Array.length_toList]; exact hacc.1
    refine vals_of_at (by rw [List.length_map, el, lk]) fun j x w h1 h2 => ?_
    rw [List.getElem?_map] at h1
    obtain ⟨⟨k0, x0⟩, g1, rfl⟩ := Option.map_eq_some_iff.mp h1
    obtain ⟨k1, g2⟩ := hacc.2 j w (by rw [← Array.getElem?_toList]; exact h2)
    exact kv_get kv g1 g2
  · rw [Array.toArray_toList]; exact hS
end
end LvV
namespace PD
open PySem PySem.Spec PyProof.Rows L2 GF
section
variable {X : Cx} {G : Gc} {ms lk : List Nat} {k : Kd} {E : List Nat} {XE : XK} {pos p apos cpos p2 pos2 : Pos} {a : Expr} {ca : DE}
/-- list(d.values()), d frozen -/
def gValsL : D → Option D
  | .dct ks => some (.lst (ks.map (·.2)))
  | _ => none
theorem fzE_vals {κ : Type} {Z : Hp} : ∀ {ks : List (κ × D)} {xs : List (κ × V)}, FzE G.K G.CA Z ks xs → FzA G.K G.CA Z (ks.map (·.2)) (xs.map (·.2))
  | [], _, h => by rw [show _ = _ from h]; rfl
  | (k, d) :: ks, _, h => by
    obtain ⟨v, r, rfl, h1, h2⟩ := h
    exact ⟨_, _, rfl, h1, fzE_vals h2⟩
theorem se_listVals (hg : Gl X "list") (hm : X.mg "list" = none) (ha : PE X a (tD G ms lk (.own 0) E XE ca)) (hc : X.calm = true := by rfl) (hb : bootBuiltins "list" = some (.type "list") := by decide +kernel) (hbase : attributeBase a "values" X.env (eval a X.env) = eval a X.env := by rfl) (hline : (apos.endLine == cpos.line) = true := by rfl)
    (hs : starEach [.Call (.Attribute a "values" apos) [] [] cpos] X.env = (false, eval (.Call (.Attribute a "values" apos) [] [] cpos) X.env) :: starEach [] X.env := by rfl) :
    PE X (.Call (.Name "list" p) [.Call (.Attribute a "values" apos) [] [] cpos] [] pos) (tD G ms lk (.own 1) E XE (d1 gValsL ca)) := PE.weak (LvV.pe_listVals hc ha hg hm hb hbase hline hs) fun σ H Q ⟨w, env, o, hH, R, ho, F⟩ => by
  rw [← hH]
  refine tD.bind R ho F (fun j hj => hj) fun w1 env1 d v L R1 x1 V1 n1 ho1 F1 => ?_
  obtain ⟨z, hz, rfl⟩ := lf_some ho1
  cases d with
  | dct ks =>
    cases hz
    obtain ⟨a0, xs, rfl, g1, g2, g3⟩ := V1.rd R1.sub
    have el : xs.length = ks.length := by rw [← List.length_map (f := (·.1)) (as := xs), fzE_keys g3.e, List.length_map]
    have h0 : Fz G.K G.CA w1.Z (.dct ks) (.ref a0) := V1.1.2
    obtain ⟨a1, xs1, e1, f1, f2, f3⟩ := h0
    cases e1
    have := R1.sub _ _ f1
    rw [g1] at this
    cases this
    exact ⟨a0, xs, rfl, unl_dK g1, by rw [el]; exact g2, fresh_lst F1 R1 .refl (fzE_vals f3.e) (by rw [List.length_map]; exact g2)⟩
  | _ => cases hz
/-- list(range(n)) -/
def gRngL : D → Option D
  | .int n => if -(2 ^ 62) ≤ n ∧ n ≤ 1000000 then some (.lst ((List.range n.toNat).map fun i => .int (i : Nat))) else none
  | _ => none
theorem fz_rng {Z : Hp} (f : Nat → Int) : ∀ (l : List Nat), FzA G.K G.CA Z (l.map fun i => D.int (f i)) (l.map fun i => V.int (f i))
  | [] => rfl
  | i :: l => ⟨_, _, rfl, rfl, fz_rng f l⟩
theorem se_listRng (hg : Gl X "list") (hm : X.mg "list" = none) (hg2 : Gl X "range") (hm2 : X.mg "range" = none) (ha : PE X a (tD G ms lk k E XE ca)) (hc : X.calm = true := by rfl)
    (na : starEach [a] X.env = (false, eval a X.env) :: starEach [] X.env := by rfl) (nb : starEach [.Call (.Name "range" p2) [a] [] pos2] X.env = (false, eval (.Call (.Name "range" p2) [a] [] pos2) X.env) :: starEach [] X.env := by rfl) :
    PE X (.Call (.Name "list" p) [.Call (.Name "range" p2) [a] [] pos2] [] pos) (tD G ms lk (.own 1) E XE (d1 gRngL ca)) := PE.weak (pe_listRg hc hg hm (prg_1 hg2 hm2 ha na) nb) fun σ H Q ⟨w, env, o, hH, R, ho, F⟩ => by
  rw [← hH]
  refine tD.bind R ho F (fun j hj => hj) fun w1 env1 d v L R1 x1 V1 n1 ho1 F1 => ?_
  obtain ⟨z, hz, rfl⟩ := lf_some ho1
  cases d with
  | int n =>
    have hz : (if -(2 ^ 62) ≤ n ∧ n ≤ 1000000 then some (D.lst ((List.range n.toNat).map fun i => .int (i : Nat))) else none) = some z := hz
    split at hz
    · rename_i hn
      cases hz
      have hv : v = .int n := V1.rd R1.sub
      refine ⟨n, hv, ⟨by decide, by decide, hn.1, by omega, by omega⟩, ?_⟩
      have e : rgV 0 n = (List.range n.toNat).map fun i => V.int (i : Nat) := by
        unfold rgV
        rw [Int.sub_zero]
        exact List.map_congr_left fun i _ => by rw [Int.zero_add]
      rw [e]
      have zl : 1000000 < sizeLine := by decide
      exact fresh_lst F1 R1 .refl (fz_rng (fun i => (i : Nat)) _) (by rw [List.length_map, List.length_range]; omega)
    · cases hz
  | _ => cases hz
end
end PD
namespace PD
open PySem PySem.Spec PyProof.Rows L2 GF
/-! ### sorted(xs), ints, any number of them -/
section
variable {X : Cx} {G : Gc} {ms lk : List Nat} {E : List Nat} {XE : XK} {pos p : Pos} {a : Expr} {cs : DA} {k : Kd}
def sortVI : D → Option D
  | .lst ds => if ds.length ≤ sizeLine then (intsOf ds).map fun ss => .lst ((sortI ss).map .int) else none
  | _ => none
theorem se_sortedI (_hc : X.calm = true) (hg : Gl X "sorted") (hm : X.mg "sorted" = none) (ha : PA X [a] (tA G ms lk [k] E XE cs)) (hb : bootBuiltins "sorted" = some (.builtin "sorted") := by decide +kernel) (he : starEach [a] X.env = (false, eval a X.env) :: starEach [] X.env := by rfl) (hpl : (backTo pos (starEach [] X.env)).any (·.1) = false := by rfl) (hK : X.K = G.K := by rfl) :
    PE X (.Call (.Name "sorted" p) [a] [] pos) (tD G ms lk (.own 1) E XE (dN (one1 sortVI) cs)) := PE.weak (pe_callB cr_sortedI hg hm hb ha (by decide) (by decide) he hpl) fun σ H Q ⟨w, env, o, hH, R, ho, F⟩ => by
  rw [← hH]
  refine tA.bind R ho F (fun _ z => z) fun w1 env1 ds vs L R1 x1 V1 n1 ho1 F1 => ?_
  obtain ⟨z, hz, rfl⟩ := lf_some ho1
  obtain ⟨d, rfl, hz⟩ := one1_some hz
  obtain ⟨v, r, rfl, h1, h2⟩ := V1.rd R1.sub
  cases (show r = [] from h2)
  cases d with
  | lst ds =>
    obtain ⟨a0, xs, rfl, g1, g2, g3⟩ := h1
    have hz : (if ds.length ≤ sizeLine then (intsOf ds).map fun ss => D.lst ((sortI ss).map .int) else none) = some z := hz
    by_cases hl : ds.length ≤ sizeLine
    rotate_left
    · rw [if_neg hl] at hz; cases hz
    rw [if_pos hl] at hz
    obtain ⟨ss, e2, rfl⟩ := Option.map_eq_some_iff.mp hz
    have ex := intsOf_fz g3 e2
    have el : ss.length = ds.length := by have := g3.len; rw [ex, List.length_map] at this; exact this
    refine ⟨a0, ss, rfl, by rw [← ex]; exact .inl (.inl (unl_lst g1)), fun ys q hp hs hq => ?_⟩
    cases sortI_eq hp hs
    exact fresh_lst F1 R1 .refl (fz_ints _) (by rw [List.length_map, hp.length_eq, el]; exact hl) q hq
  | _ => cases hz
end
end PD
namespace PD
open PySem PySem.Spec PyProof.Rows L2 GF
/-! ### the trees' programs, read forwards: what they end with -/
section
variable {α β : Type} {c c1 c2 : DS} {a b : DE} {ta tb : DB} {cs : DA} {e : Ev} {N : Ev → Prop} {R : D → Ev → Prop} {B C : Ev → Prop} {i j : Nat}
def Wp (c : Ev → Option (Out α)) (e : Ev) (Q : α → Ev → Prop) : Prop := ∃ a e1, c e = some (.ok a e1) ∧ Q a e1
theorem Wp.mono {c : Ev → Option (Out α)} {Q Q' : α → Ev → Prop} (h : Wp c e Q) (f : ∀ a e, Q a e → Q' a e) : Wp c e Q' := by
  obtain ⟨a, e1, h1, h2⟩ := h
  exact ⟨a, e1, h1, f _ _ h2⟩
theorem wp_bnd {c : Ev → Option (Out α)} {f : α → Ev → Option (Out β)} {Q : β → Ev → Prop} : Wp (bnd c f) e Q ↔ Wp c e fun a e1 => Wp (f a) e1 Q := by
  unfold Wp bnd
  constructor
  · rintro ⟨a, e1, h1, h2⟩
    split at h1
    · rename_i a0 e0 h; exact ⟨a0, e0, h, a, e1, h1, h2⟩
    · cases h1
    · cases h1
  · rintro ⟨a, e1, h1, b, e2, h2, h3⟩
    exact ⟨b, e2, by rw [h1]; exact h2, h3⟩
theorem wp_lf {o : Option α} {Q : α → Ev → Prop} : Wp (lf o) e Q ↔ ∃ d, o = some d ∧ Q d e := by
  unfold Wp lf
  constructor
  · rintro ⟨a, e1, h1, h2⟩
    split at h1
    · cases h1; exact ⟨_, rfl, h2⟩
    · cases h1
  · rintro ⟨d, rfl, h⟩
    exact ⟨d, e, rfl, h⟩
theorem wp_dC {d : D} {Q : D → Ev → Prop} : Wp (dC d) e Q ↔ Q d e := by
  constructor
  · rintro ⟨a, e1, h1, h2⟩; cases h1; exact h2
  · exact fun h => ⟨d, e, rfl, h⟩
theorem wp_dV {Q : D → Ev → Prop} : Wp (dV i) e Q ↔ ∃ d, e[i]? = some (some d) ∧ Q d e := by
  unfold Wp dV
  constructor
  · rintro ⟨a, e1, h1, h2⟩
    split at h1
    · rename_i d h; cases h1; exact ⟨_, h, h2⟩
    · cases h1
  · rintro ⟨d, h1, h2⟩
    exact ⟨d, e, by rw [h1], h2⟩
theorem wp_d1 {g : D → Option D} {Q : D → Ev → Prop} : Wp (d1 g a) e Q ↔ Wp a e fun x e1 => ∃ z, g x = some z ∧ Q z e1 := by
  unfold d1; simp only [wp_bnd, wp_lf]
theorem wp_d2 {g : D → D → Option D} {Q : D → Ev → Prop} : Wp (d2 g a b) e Q ↔ Wp a e fun x e1 => Wp b e1 fun y e2 => ∃ z, g x y = some z ∧ Q z e2 := by
  unfold d2; simp only [wp_bnd, wp_lf]
theorem wp_nilA {Q : List D → Ev → Prop} : Wp nilA e Q ↔ Q [] e := by
  unfold nilA; simp [wp_lf]
theorem wp_consA {Q : List D → Ev → Prop} : Wp (consA a cs) e Q ↔ Wp a e fun d e1 => Wp cs e1 fun ds e2 => Q (d :: ds) e2 := by
  unfold consA; simp [wp_bnd, wp_lf]
theorem wp_dN {g : List D → Option D} {Q : D → Ev → Prop} : Wp (dN g cs) e Q ↔ Wp cs e fun ds e1 => ∃ z, g ds = some z ∧ Q z e1 := by
  unfold dN; simp only [wp_bnd, wp_lf]
theorem wp_bT {Q : Bool → Ev → Prop} : Wp (bT a) e Q ↔ Wp a e fun d e1 => ∃ t, d = .bl t ∧ Q t e1 := by
  unfold bT; simp only [wp_bnd, wp_lf]
  refine iff_of_eq (congrArg _ (funext fun d => funext fun e1 => ?_))
  refine propext ⟨?_, ?_⟩
  · rintro ⟨t, h, q⟩
    cases d <;> cases h
    exact ⟨_, rfl, q⟩
  · rintro ⟨t, rfl, q⟩
    exact ⟨t, rfl, q⟩
theorem wp_bNot {Q : Bool → Ev → Prop} : Wp (bNot ta) e Q ↔ Wp ta e fun t e1 => Q (!t) e1 := by
  unfold bNot; simp only [wp_bnd, wp_lf, Option.some.injEq, exists_eq_left']
theorem wp_bAnd {Q : Bool → Ev → Prop} : Wp (bAnd ta tb) e Q ↔ Wp ta e fun t e1 => if t = true then Wp tb e1 Q else Q false e1 := by
  unfold bAnd; simp only [wp_bnd]
  refine iff_of_eq (congrArg _ (funext fun d => funext fun e1 => ?_))
  cases d <;> simp [wp_lf]
theorem wp_bOr {Q : Bool → Ev → Prop} : Wp (bOr ta tb) e Q ↔ Wp ta e fun t e1 => if t = true then Q true e1 else Wp tb e1 Q := by
  unfold bOr; simp only [wp_bnd]
  refine iff_of_eq (congrArg _ (funext fun d => funext fun e1 => ?_))
  cases d <;> simp [wp_lf]
theorem wp_bYes {Q : Bool → Ev → Prop} : Wp bYes e Q ↔ Q true e := by
  constructor
  · rintro ⟨a, e1, h1, h2⟩; cases h1; exact h2
  · exact fun h => ⟨true, e, rfl, h⟩
theorem wp_dIf {Q : D → Ev → Prop} : Wp (dIf ta a b) e Q ↔ Wp ta e fun t e1 => if t = true then Wp a e1 Q else Wp b e1 Q := by
  unfold dIf; simp only [wp_bnd]
  refine iff_of_eq (congrArg _ (funext fun d => funext fun e1 => ?_))
  cases d <;> simp
theorem wp_none {Q : α → Ev → Prop} : Wp (fun _ => none) e Q ↔ False := by
  constructor
  · rintro ⟨_, _, h, _⟩; cases h
  · exact False.elim
theorem wp_dNot {Q : D → Ev → Prop} : Wp (dNot a) e Q ↔ Wp a e fun x e1 => ∃ t, x = .bl t ∧ Q (.bl !t) e1 := by
  unfold dNot; simp only [wp_bnd]
  refine iff_of_eq (congrArg _ (funext fun d => funext fun e1 => ?_))
  cases d <;> simp [wp_lf, wp_none]
theorem wp_dAnd {Q : D → Ev → Prop} : Wp (dAnd a b) e Q ↔ Wp a e fun x e1 => ∃ t, x = .bl t ∧ if t = true then Wp b e1 Q else Q (.bl false) e1 := by
  unfold dAnd; simp only [wp_bnd]
  refine iff_of_eq (congrArg _ (funext fun d => funext fun e1 => ?_))
  cases d with
  | bl t => cases t <;> simp [wp_lf]
  | _ => simp [wp_none]
theorem wp_dOr {Q : D → Ev → Prop} : Wp (dOr a b) e Q ↔ Wp a e fun x e1 => ∃ t, x = .bl t ∧ if t = true then Q (.bl true) e1 else Wp b e1 Q := by
  unfold dOr; simp only [wp_bnd]
  refine iff_of_eq (congrArg _ (funext fun d => funext fun e1 => ?_))
  cases d with
  | bl t => cases t <;> simp [wp_lf]
  | _ => simp [wp_none]
theorem wp_dChain {g g' : D → D → Option D} {c : DE} {Q : D → Ev → Prop} : Wp (dChain g g' a b c) e Q ↔ Wp a e fun x e1 => Wp b e1 fun y e2 => ∃ t, g x y = some (.bl t) ∧ if t = true then Wp c e2 fun z e3 => ∃ u, g' y z = some u ∧ Q u e3 else Q (.bl false) e2 := by
  unfold dChain; simp only [wp_bnd]
  refine iff_of_eq (congrArg _ (funext fun x => funext fun e1 => congrArg _ (funext fun y => funext fun e2 => ?_)))
  cases h : g x y with
  | none => simp [wp_none]
  | some d =>
    cases d with
    | bl t => cases t <;> simp [wp_lf, wp_bnd]
    | _ => simp [wp_none]
theorem wp_oNone {Q : Option Int → Ev → Prop} : Wp oNone e Q ↔ Q none e := by
  unfold oNone; simp [wp_lf]
theorem wp_oSome {Q : Option Int → Ev → Prop} : Wp (oSome a) e Q ↔ Wp a e fun d e1 => ∃ n, d = .int n ∧ Q (some n) e1 := by
  unfold oSome; simp only [wp_bnd, wp_lf]
  refine iff_of_eq (congrArg _ (funext fun d => funext fun e1 => ?_))
  cases d <;> simp
theorem wp_dSl {l h : DO} {Q : D → Ev → Prop} : Wp (dSl a l h) e Q ↔ Wp a e fun d e1 => Wp l e1 fun m e2 => Wp h e2 fun n e3 => ∃ z, gSl d m n = some z ∧ Q z e3 := by
  unfold dSl; simp only [wp_bnd, wp_lf]
theorem wp_dUp {m : Nat} {Q : D → Ev → Prop} : Wp (dUp m a) e Q ↔ Wp a e fun d e1 => leaf m d = true ∧ Q d e1 := by
  unfold dUp; simp only [wp_bnd, wp_lf]
  refine iff_of_eq (congrArg _ (funext fun d => funext fun e1 => ?_))
  refine propext ⟨?_, ?_⟩
  · rintro ⟨d', h, q⟩
    split at h
    · rename_i hl; cases h; exact ⟨hl, q⟩
    · cases h
  · rintro ⟨hl, q⟩
    exact ⟨d, by rw [if_pos hl], q⟩
theorem wp_itE {Q : List D → Ev → Prop} : Wp (itE a) e Q ↔ Wp a e fun d e1 => ∃ z, itD d = some z ∧ Q z e1 := by
  unfold itE; simp only [wp_bnd, wp_lf]
theorem wp_itKE {Q : List D → Ev → Prop} : Wp (itKE a) e Q ↔ Wp a e fun d e1 => ∃ z, itK d = some z ∧ Q z e1 := by
  unfold itKE; simp only [wp_bnd, wp_lf]
theorem wp_itemsE {Q : List D → Ev → Prop} : Wp (itemsE a) e Q ↔ Wp a e fun d e1 => ∃ z, itemsD d = some z ∧ Q z e1 := by
  unfold itemsE; simp only [wp_bnd, wp_lf]
theorem wp_valsE {Q : List D → Ev → Prop} : Wp (valsE a) e Q ↔ Wp a e fun d e1 => ∃ z, valsD d = some z ∧ Q z e1 := by
  unfold valsE; simp only [wp_bnd, wp_lf]
theorem wp_rngE {Q : List D → Ev → Prop} : Wp (rngE cs) e Q ↔ Wp cs e fun d e1 => ∃ z, rngD d = some z ∧ Q z e1 := by
  unfold rngE; simp only [wp_bnd, wp_lf]
theorem wp_zipE {Q : List D → Ev → Prop} : Wp (zipE cs) e Q ↔ Wp cs e fun d e1 => ∃ z, zipD d = some z ∧ Q z e1 := by
  unfold zipE; simp only [wp_bnd, wp_lf]
/-- what a def ends with -/
def Wf (F : FD) (ds : List D) (Q : D → List D → Prop) : Prop := ∃ r ds', F ds = some (r, ds') ∧ Q r ds'
theorem Wf.mono {F : FD} {ds : List D} {Q Q' : D → List D → Prop} (h : Wf F ds Q) (f : ∀ r ds', Q r ds' → Q' r ds') : Wf F ds Q' := by
  obtain ⟨r, ds', h1, h2⟩ := h
  exact ⟨r, ds', h1, f _ _ h2⟩
theorem wp_dCall {F : FD} {as : List Ac} {sg : Sg} {bb : Bool} {Q : D → Ev → Prop} : Wp (dCall F as sg bb cs) e Q ↔ Wp cs e fun ds e1 => ∃ fs, fillA as ds e1 = some fs ∧ Wf F fs fun r ds' => (bb = true ∨ (leaf sg.k r && ioLeaf sg.pm ds') = true) ∧ Q r (backA as ds' e1) := by
  unfold dCall; simp only [wp_bnd]
  refine iff_of_eq (congrArg _ (funext fun ds => funext fun e1 => propext ⟨?_, ?_⟩))
  · rintro ⟨d, e2, h, q⟩
    dsimp only at h
    split at h
    · cases h
    · rename_i fs hf
      split at h
      · cases h
      · rename_i r ds' hF
        split at h
        · rename_i hb; cases h; exact ⟨fs, hf, _, _, hF, hb, q⟩
        · cases h
  · rintro ⟨fs, hf, r, ds', hF, hb, q⟩
    refine ⟨r, backA as ds' e1, ?_, q⟩
    dsimp only
    rw [hf]
    dsimp only
    rw [hF]
    dsimp only
    rw [if_pos hb]
theorem wp_consS {Q : List D → Ev → Prop} : Wp (consS j cs) e Q ↔ ∃ d, e[j]? = some (some d) ∧ Wp cs e fun ds e1 => Q (.non :: ds) e1 := by
  constructor
  · rintro ⟨x, e1, h, q⟩
    unfold consS at h
    split at h
    · rename_i d hd
      have := (wp_bnd (f := fun ds => lf (some (D.non :: ds))) (Q := Q)).mp ⟨x, e1, h, q⟩
      simp only [wp_lf, Option.some.injEq, exists_eq_left'] at this
      exact ⟨d, hd, this⟩
    · cases h
  · rintro ⟨d, hd, h⟩
    have : Wp (bnd cs fun ds => lf (some (D.non :: ds))) e Q := by
      simp only [wp_bnd, wp_lf, Option.some.injEq, exists_eq_left']
      exact h
    obtain ⟨x, e1, h1, q⟩ := this
    refine ⟨x, e1, ?_, q⟩
    unfold consS
    rw [hd]
    exact h1
theorem wp_dLm {f : LM} {Q : D → Ev → Prop} : Wp (dLm i f cs) e Q ↔ (∃ ds, e[i]? = some (some (.lst ds))) ∧ Wp cs e fun as e1 => ∃ ds, e1[i]? = some (some (.lst ds)) ∧ ∃ r ds', f ds as = some (r, ds') ∧ Q r (e1.set i (some (.lst ds'))) := by
  constructor
  · rintro ⟨x, e1, h, q⟩
    unfold dLm at h
    split at h
    · rename_i d hd
      refine ⟨⟨_, hd⟩, ?_⟩
      refine (wp_bnd.mp ⟨x, e1, h, q⟩ : Wp cs e _).mono fun as e2 ⟨x', e3, h', q'⟩ => ?_
      dsimp only at h'
      split at h'
      · rename_i ds hds
        split at h'
        · rename_i r ds' hf
          cases h'
          exact ⟨ds, hds, _, _, hf, q'⟩
        · cases h'
      · cases h'
    · cases h
  · rintro ⟨⟨ds0, h0⟩, as, e1, h1, ds, h2, r, ds', h3, q⟩
    refine ⟨r, _, ?_, q⟩
    unfold dLm
    rw [h0]
    dsimp only
    unfold bnd
    rw [h1]
    dsimp only
    rw [h2]
    dsimp only
    rw [h3]
/-! statements -/
def Ws (c : DS) (e : Ev) (N : Ev → Prop) (R : D → Ev → Prop) (B C : Ev → Prop) : Prop := ∃ o, c e = some o ∧ match o with
  | .nx e1 => N e1
  | .rt d e1 => R d e1
  | .bk e1 => B e1
  | .ct e1 => C e1
  | .ex _ _ => False
theorem Ws.mono {N' : Ev → Prop} {R' : D → Ev → Prop} {B' C' : Ev → Prop} (h : Ws c e N R B C) (fn : ∀ e, N e → N' e) (fr : ∀ d e, R d e → R' d e) (fb : ∀ e, B e → B' e) (fc : ∀ e, C e → C' e) : Ws c e N' R' B' C' := by
  obtain ⟨o, h1, h2⟩ := h
  refine ⟨o, h1, ?_⟩
  cases o with
  | nx e => exact fn _ h2
  | rt d e => exact fr _ _ h2
  | bk e => exact fb _ h2
  | ct e => exact fc _ h2
  | ex _ _ => exact h2
theorem ws_skip : Ws skip e N R B C ↔ N e := by
  constructor
  · rintro ⟨o, h1, h2⟩; cases h1; exact h2
  · exact fun h => ⟨_, rfl, h⟩
theorem ws_seq : Ws (seq c1 c2) e N R B C ↔ Ws c1 e (fun e1 => Ws c2 e1 N R B C) R B C := by
  unfold Ws seq
  constructor
  · rintro ⟨o, h1, h2⟩
    split at h1
    · rename_i e1 he; exact ⟨_, he, o, h1, h2⟩
    · rename_i hn
      refine ⟨o, h1, ?_⟩
      cases o with
      | nx e => exact absurd h1 (hn e)
      | _ => exact h2
  · rintro ⟨o, h1, h2⟩
    cases o with
    | nx e1 => obtain ⟨o2, h3, h4⟩ := h2; exact ⟨o2, by rw [h1]; exact h3, h4⟩
    | _ => exact ⟨_, by rw [h1], h2⟩
theorem ws_bndS {ca : Ev → Option (Out α)} {f : α → DS} : Ws (bndS ca f) e N R B C ↔ Wp ca e fun a e1 => Ws (f a) e1 N R B C := by
  unfold Ws bndS
  constructor
  · rintro ⟨o, h1, h2⟩
    split at h1
    · rename_i a e1 he; exact ⟨a, e1, he, o, h1, h2⟩
    · cases h1; exact h2.elim
    · cases h1
  · rintro ⟨a, e1, he, o, h1, h2⟩
    exact ⟨o, by rw [he]; exact h1, h2⟩
theorem ws_nx {e1 : Ev} : Ws (fun _ => some (.nx e1)) e N R B C ↔ N e1 := by
  constructor
  · rintro ⟨o, h1, h2⟩; cases h1; exact h2
  · exact fun h => ⟨_, rfl, h⟩
theorem ws_sSet : Ws (sSet i a) e N R B C ↔ Wp a e fun d e1 => N (e1.set i (some d)) := by
  unfold sSet; rw [ws_bndS]
  refine iff_of_eq (congrArg _ (funext fun d => funext fun e1 => propext ⟨?_, ?_⟩))
  · rintro ⟨o, h1, h2⟩; cases h1; exact h2
  · exact fun h => ⟨_, rfl, h⟩
theorem ws_sIf : Ws (sIf ta c1 c2) e N R B C ↔ Wp ta e fun t e1 => if t = true then Ws c1 e1 N R B C else Ws c2 e1 N R B C := by
  unfold sIf; rw [ws_bndS]
  refine iff_of_eq (congrArg _ (funext fun d => funext fun e1 => ?_))
  cases d <;> simp
theorem ws_sRet : Ws (sRet a) e N R B C ↔ Wp a e R := by
  unfold sRet; rw [ws_bndS]
  refine iff_of_eq (congrArg _ (funext fun d => funext fun e1 => propext ⟨?_, ?_⟩))
  · rintro ⟨o, h1, h2⟩; cases h1; exact h2
  · exact fun h => ⟨_, rfl, h⟩
theorem ws_sExpr : Ws (sExpr a) e N R B C ↔ Wp a e fun _ e1 => N e1 := by
  unfold sExpr; rw [ws_bndS]
  simp only [ws_skip]
theorem ws_sPar {is : List Nat} : Ws (sPar is cs) e N R B C ↔ Wp cs e fun ds e1 => ds.length = is.length ∧ N (setL is ds e1) := by
  unfold sPar; rw [ws_bndS]
  refine iff_of_eq (congrArg _ (funext fun d => funext fun e1 => propext ⟨?_, ?_⟩))
  · rintro ⟨o, h1, h2⟩
    split at h1
    · rename_i hl; cases h1; exact ⟨hl, h2⟩
    · cases h1
  · rintro ⟨hl, h⟩
    exact ⟨_, if_pos hl, h⟩
theorem ws_sAsg {t : Tg} : Ws (sAsg t a) e N R B C ↔ Wp a e fun d e1 => ∃ e2, asgT t d e1 = some e2 ∧ N e2 := by
  unfold sAsg; rw [ws_bndS]
  refine iff_of_eq (congrArg _ (funext fun d => funext fun e1 => propext ⟨?_, ?_⟩))
  · rintro ⟨o, h1, h2⟩
    obtain ⟨e2, he, rfl⟩ := Option.map_eq_some_iff.mp h1
    exact ⟨e2, he, h2⟩
  · rintro ⟨e2, he, h⟩
    exact ⟨.nx e2, by dsimp only; rw [he]; rfl, h⟩
theorem ws_have {c : DS} : Ws (have_ i c) e N R B C ↔ (∃ d, e[i]? = some (some d)) ∧ Ws c e N R B C := by
  unfold Ws have_
  constructor
  · rintro ⟨o, h1, h2⟩
    split at h1
    · rename_i d hd; exact ⟨⟨d, hd⟩, o, h1, h2⟩
    · cases h1
  · rintro ⟨⟨d, hd⟩, o, h1, h2⟩
    exact ⟨o, by rw [hd]; exact h1, h2⟩
theorem ws_sSto : Ws (sSto i a b) e N R B C ↔ Wp a e fun d e1 => (∃ c, e1[i]? = some (some c)) ∧ Wp b e1 fun k e2 => ∃ c, e2[i]? = some (some c) ∧ ∃ c', stoD c k d = some c' ∧ N (e2.set i (some c')) := by
  unfold sSto; rw [ws_bndS]
  refine iff_of_eq (congrArg _ (funext fun d => funext fun e1 => ?_))
  rw [ws_have, ws_bndS]
  refine congrArg _ (congrArg _ (funext fun k => funext fun e2 => propext ⟨?_, ?_⟩))
  · rintro ⟨o, h1, h2⟩
    dsimp only at h1
    split at h1
    · rename_i c hc
      split at h1
      · rename_i c' hs; cases h1; exact ⟨c, hc, c', hs, h2⟩
      · cases h1
    · cases h1
  · rintro ⟨c, hc, c', hs, q⟩
    refine ⟨.nx (e2.set i (some c')), ?_, q⟩
    dsimp only
    rw [hc]
    dsimp only
    rw [hs]
theorem ws_stoV {u : Nat} {x : D} : Ws (stoV i u x) e N R B C ↔ ∃ k, e[u]? = some (some k) ∧ ∃ c, e[i]? = some (some c) ∧ ∃ c', stoD c k x = some c' ∧ N (e.set i (some c')) := by
  unfold Ws stoV
  constructor
  · rintro ⟨o, h1, h2⟩
    split at h1
    · rename_i k hk
      split at h1
      · rename_i c hc
        split at h1
        · rename_i c' hs; cases h1; exact ⟨k, hk, c, hc, c', hs, h2⟩
        · cases h1
      · cases h1
    · cases h1
  · rintro ⟨k, hk, c, hc, c', hs, q⟩
    refine ⟨.nx (e.set i (some c')), ?_, q⟩
    rw [hk]
    dsimp only
    rw [hc]
    dsimp only
    rw [hs]
theorem ws_sFor {t : Tg} : Ws (sFor t cs c) e N R B C ↔ Wp cs e fun ds e1 => Ws (forL t c ds) e1 N R B C := by
  unfold sFor; rw [ws_bndS]
theorem ws_bk : Ws (fun e => some (.bk e)) e N R B C ↔ B e := by
  constructor
  · rintro ⟨o, h1, h2⟩; cases h1; exact h2
  · exact fun h => ⟨_, rfl, h⟩
theorem ws_ct : Ws (fun e => some (.ct e)) e N R B C ↔ C e := by
  constructor
  · rintro ⟨o, h1, h2⟩; cases h1; exact h2
  · exact fun h => ⟨_, rfl, h⟩
/-! loops -/
theorem ws_forL {t : Tg} (I : Nat → Ev → Prop) : ∀ {ds : List D} {n : Nat} {e : Ev}, I n e → (∀ (j : Nat) (d : D) (e : Ev), ds[j]? = some d → I (n + j) e → ∃ e1, asgT t d e = some e1 ∧ Ws c e1 (I (n + j + 1)) R N (I (n + j + 1))) → (∀ e, I (n + ds.length) e → N e) → Ws (forL t c ds) e N R B C
  | [], n, e, h0, _, hN => ⟨.nx e, rfl, hN e h0⟩
  | d :: ds, n, e, h0, hs, hN => by
    obtain ⟨e1, h1, o, h2, h3⟩ := hs 0 d e rfl h0
    have next : ∀ e2, I (n + 1) e2 → Ws (forL t c ds) e2 N R B C := fun e2 h => ws_forL I h (fun j d' e' hd h' => by
      have := hs (j + 1) d' e' hd (by rw [show n + (j + 1) = n + 1 + j by omega]; exact h')
      rw [show n + (j + 1) = n + 1 + j by omega] at this
      exact this) fun e' h' => hN e' (by rw [List.length_cons, show n + (ds.length + 1) = n + 1 + ds.length by omega]; exact h')
    unfold Ws forL
    rw [h1]
    dsimp only
    rw [h2]
    cases o with
    | nx e2 => exact next e2 h3
    | ct e2 => exact next e2 h3
    | bk e2 => exact ⟨_, rfl, h3⟩
    | rt d e2 => exact ⟨_, rfl, h3⟩
    | ex x e2 => exact h3.elim
theorem ws_for {t : Tg} {ds : List D} (I : Nat → Ev → Prop) (h0 : I 0 e) (hs : ∀ (j : Nat) (d : D) (e : Ev), ds[j]? = some d → I j e → ∃ e1, asgT t d e = some e1 ∧ Ws c e1 (I (j + 1)) R N (I (j + 1))) (hN : ∀ e, I ds.length e → N e) : Ws (forL t c ds) e N R B C :=
  ws_forL I h0 (fun j d e hd h => by rw [Nat.zero_add] at h ⊢; exact hs j d e hd h) fun e h => hN e (by rw [Nat.zero_add] at h; exact h)
theorem ws_whl {t : DB} (I : Nat → Ev → Prop) (hs : ∀ n e, I n e → Wp t e fun b e1 => if b = true then Ws c e1 (fun e2 => ∃ m, m < n ∧ I m e2) R N (fun e2 => ∃ m, m < n ∧ I m e2) else N e1) : ∀ {n f : Nat} {e : Ev}, I n e → n < f → Ws (whl t c f) e N R B C
  | _, 0, _, _, hf => absurd hf (Nat.not_lt_zero _)
  | n, f + 1, e, h, hf => by
    obtain ⟨b, e1, h1, h2⟩ := hs n e h
    unfold Ws whl
    rw [h1]
    cases b with
    | false => exact ⟨_, rfl, h2⟩
    | true =>
      obtain ⟨o, h3, h4⟩ := h2
      dsimp only
      rw [h3]
      cases o with
      | nx e2 => obtain ⟨m, hm, h5⟩ := h4; exact ws_whl I hs h5 (by omega)
      | ct e2 => obtain ⟨m, hm, h5⟩ := h4; exact ws_whl I hs h5 (by omega)
      | bk e2 => exact ⟨_, rfl, h4⟩
      | rt d e2 => exact ⟨_, rfl, h4⟩
      | ex x e2 => exact h4.elim
theorem compL_of {t : Tg} {tt : DB} {te : DE} {vs : List Nat} (I : Nat → List D → Ev → Prop) : ∀ {ds : List D} {n : Nat} {acc : List D} {e : Ev}, I n acc (wipeE vs e) →
    (∀ (j : Nat) (d : D) (acc : List D) (e : Ev), ds[j]? = some d → I (n + j) acc e → ∃ e1, asgT t d e = some e1 ∧ Wp tt e1 fun b e2 => if b = true then Wp te e2 fun y e3 => I (n + j + 1) (acc ++ [y]) (wipeE vs e3) else I (n + j + 1) acc (wipeE vs e2)) →
    ∃ acc' e', compL t tt te vs ds acc e = some (.ok acc' e') ∧ I (n + ds.length) acc' e'
  | [], n, acc, e, h0, _ => ⟨acc, wipeE vs e, rfl, h0⟩
  | d :: ds, n, acc, e, h0, hs => by
    obtain ⟨e1, h1, b, e2, h2, h3⟩ := hs 0 d acc _ rfl h0
    have next : ∀ acc2 e3, I (n + 1) acc2 (wipeE vs e3) → ∃ acc' e', compL t tt te vs ds acc2 e3 = some (.ok acc' e') ∧ I (n + (d :: ds).length) acc' e' := fun acc2 e3 h => by
      obtain ⟨acc', e', g1, g2⟩ := compL_of I (ds := ds) h fun j d' a' e' hd h' => by
        have := hs (j + 1) d' a' e' hd (by rw [show n + (j + 1) = n + 1 + j by omega]; exact h')
        rw [show n + (j + 1) = n + 1 + j by omega] at this
        exact this
      exact ⟨acc', e', g1, by rw [List.length_cons, show n + (ds.length + 1) = n + 1 + ds.length by omega]; exact g2⟩
    unfold compL
    rw [h1]
    dsimp only
    rw [h2]
    cases b with
    | false => exact next acc e2 h3
    | true =>
      obtain ⟨y, e3, h4, h5⟩ := h3
      dsimp only
      rw [h4]
      exact next (acc ++ [y]) e3 h5
theorem wp_dLc {it : DA} {t : Tg} {tt : DB} {te : DE} {vs : List Nat} {Q : D → Ev → Prop} (h : Wp it e fun ds e1 => ds.length ≤ sizeLine ∧ ∃ I : Nat → List D → Ev → Prop, I 0 [] (wipeE vs e1) ∧
    (∀ (j : Nat) (d : D) (acc : List D) (e : Ev), ds[j]? = some d → I j acc e → ∃ e1, asgT t d e = some e1 ∧ Wp tt e1 fun b e2 => if b = true then Wp te e2 fun y e3 => I (j + 1) (acc ++ [y]) (wipeE vs e3) else I (j + 1) acc (wipeE vs e2)) ∧
    ∀ acc e2, I ds.length acc e2 → Q (.lst acc) e2) : Wp (dLc it t tt te vs) e Q := by
  unfold dLc
  refine wp_bnd.mpr (h.mono fun ds e1 ⟨hl, I, h0, hs, hq⟩ => ?_)
  obtain ⟨acc, e2, g1, g2⟩ := compL_of I (n := 0) (ds := ds) h0 fun j d acc e hd h => by rw [Nat.zero_add] at h ⊢; exact hs j d acc e hd h
  rw [Nat.zero_add] at g2
  refine ⟨.lst acc, e2, ?_, hq acc e2 g2⟩
  dsimp only
  rw [if_pos hl, g1]
/-- a comprehension that changes nothing else -/
theorem wp_dLcM {it : DA} {t : Tg} {tt : DB} {te : DE} {vs : List Nat} {Q : D → Ev → Prop} (p : D → Bool) (f : D → D) (h : Wp it e fun ds e1 => ds.length ≤ sizeLine ∧
    (∀ d ∈ ds, ∃ e2, asgT t d (wipeE vs e1) = some e2 ∧ Wp tt e2 fun b e3 => b = p d ∧ if b = true then Wp te e3 fun y e4 => y = f d ∧ wipeE vs e4 = wipeE vs e1 else wipeE vs e3 = wipeE vs e1) ∧
    Q (.lst ((ds.filter p).map f)) (wipeE vs e1)) : Wp (dLc it t tt te vs) e Q := by
  refine wp_dLc (h.mono fun ds e1 ⟨hl, hs, hq⟩ => ⟨hl, fun j acc e => e = wipeE vs e1 ∧ acc = ((ds.take j).filter p).map f, ⟨rfl, rfl⟩, fun j d acc e hd ⟨he, ha⟩ => ?_, fun acc e2 ⟨he, ha⟩ => ?_⟩)
  · subst he
    obtain ⟨e2, h1, b, e3, h2, h3, h4⟩ := hs d (List.mem_of_getElem? hd)
    have tk : ds.take (j + 1) = ds.take j ++ [d] := by rw [List.take_add_one, hd]; rfl
    refine ⟨e2, h1, b, e3, h2, ?_⟩
    subst h3
    split
    · rename_i hp
      rw [if_pos hp] at h4
      refine h4.mono fun y e4 ⟨h5, h6⟩ => ⟨h6, ?_⟩
      rw [ha, tk, List.filter_append, List.map_append, h5]
      simp [hp]
    · rename_i hp
      rw [if_neg hp] at h4
      refine ⟨h4, ?_⟩
      rw [ha, tk, List.filter_append, List.map_append]
      simp [hp]
  · subst he
    rw [ha, List.take_length]
    exact hq
/-- a def by its body -/
theorem wf_sem {sg : Sg} {n : Nat} {ds : List D} {Q : D → List D → Prop} (h : Ws c (ds.map some ++ List.replicate (n - sg.n) none) (fun e => (sg.ios.all fun i => (e.getD i none).isSome) = true ∧ Q .non (outD sg.n e)) (fun d e => (sg.ios.all fun i => (e.getD i none).isSome) = true ∧ Q d (outD sg.n e)) (fun _ => False) fun _ => False) : Wf (semD c sg n) ds Q := by
  obtain ⟨o, h1, h2⟩ := h
  unfold Wf semD
  rw [h1]
  cases o with
  | nx e => exact ⟨_, _, by dsimp only; rw [if_pos h2.1], h2.2⟩
  | rt d e => exact ⟨_, _, by dsimp only; rw [if_pos h2.1], h2.2⟩
  | bk e => exact h2.elim
  | ct e => exact h2.elim
  | ex _ _ => exact h2.elim
end
end PD
namespace PD
open PySem PySem.Spec PyProof.Rows L2 GF
/-! plain operators at known shapes -/
theorem gx_lst {ds : List D} : gLst ds = some (.lst ds) := rfl
theorem gx_tup {ds : List D} : gTup ds = some (.tup ds) := rfl
theorem gx_add {i j : Int} : gAdd (.int i) (.int j) = some (.int (i + j)) := rfl
theorem gx_sub {i j : Int} : gSubI (.int i) (.int j) = some (.int (i - j)) := rfl
theorem gx_lt {i j : Int} : gLt (.int i) (.int j) = some (.bl (decide (i < j))) := rfl
theorem gx_le {i j : Int} : gLe (.int i) (.int j) = some (.bl (decide (i ≤ j))) := rfl
theorem gx_gt {i j : Int} : gGt (.int i) (.int j) = some (.bl (decide (j < i))) := rfl
theorem gx_ge {i j : Int} : gGe (.int i) (.int j) = some (.bl (decide (j ≤ i))) := rfl
theorem gx_len {ds : List D} : gLen [.lst ds] = some (.int (ds.length : Nat)) := rfl
theorem gx_lenD {ks : List (Key × D)} : gLen [.dct ks] = some (.int (ks.length : Nat)) := rfl
theorem gx_lenS {ns : List Int} : gLen [.scr ns] = some (.int (ns.length : Nat)) := rfl
theorem gx_neg {i : Int} : gNeg (.int i) = some (.int (-i)) := rfl
theorem gx_list {ds : List D} : gListV [.lst ds] = some (.lst ds) := rfl
theorem gx_eqI {i j : Int} : gEq (.int i) (.int j) = some (.bl (decide (i = j))) := rfl
theorem gx_neI {i j : Int} : gNe (.int i) (.int j) = some (.bl !decide (i = j)) := rfl
theorem gx_eqS {i j : Str} : gEq (.str i) (.str j) = some (.bl (decide (i = j))) := rfl
theorem gx_neS {i j : Str} : gNe (.str i) (.str j) = some (.bl !decide (i = j)) := rfl
theorem gx_isi {t : Ty} {d : D} : gIsi t d = (isiD d t).map .bl := rfl
theorem gx_all {bs : List Bool} : gAll [.lst (bs.map .bl)] = some (.bl (bs.all id)) := by
  have : ∀ bs : List Bool, blsOf (bs.map .bl) = some bs := by
    intro bs
    induction bs with
    | nil => rfl
    | cons b bs ih => show (blsOf (bs.map .bl)).map (b :: ·) = _; rw [ih]; rfl
  show ((lstOf (.lst (bs.map .bl))).bind blsOf).map _ = _
  show (blsOf (bs.map .bl)).map _ = _
  rw [this]; rfl
theorem gx_itL {ds : List D} : itK (.lst ds) = some ds := rfl
theorem gx_itl {ds : List D} : itD (.lst ds) = some ds := rfl
theorem gx_itD {ks : List (Key × D)} : itK (.dct ks) = some (ks.map fun p => kD p.1) := rfl
theorem gx_items {ks : List (Key × D)} : itemsD (.dct ks) = some (ks.map fun p => .tup [kD p.1, p.2]) := rfl
theorem gI_is {C : Int → Int → Prop} [∀ i j, Decidable (C i j)] {f : Int → Int → Int} {i j : Int} (h : C i j) : gI C f (.int i) (.int j) = some (.int (f i j)) := by
  show (if C i j then some (D.int (f i j)) else none) = _
  rw [if_pos h]
theorem atI_is {α : Type} {xs : List α} {k : Nat} {x : α} (h : xs[k]? = some x) : atI xs (k : Nat) = some x := by
  have hl := (List.getElem?_eq_some_iff.mp h).1
  unfold atI ixN
  rw [if_pos (by omega), if_pos (by omega)]
  simpa using h
theorem gx_at {ds : List D} {k : Nat} {d : D} (h : ds[k]? = some d) : PD.gSub (.lst ds) (.int (k : Nat)) = some d := atI_is h
theorem rng_is {n : Nat} (h : n < 2 ^ 62) : rngD [.int (n : Nat)] = some ((List.range n).map fun i => .int (i : Nat)) := by
  have h2 : -(2 ^ 62) ≤ ((n : Nat) : Int) ∧ ((n : Nat) : Int) < 2 ^ 62 := ⟨by omega, by omega⟩
  unfold rngD
  dsimp only
  rw [if_pos h2, Int.toNat_natCast]
  exact congrArg some (List.map_congr_left fun i _ => by rw [Int.zero_add])
theorem pop_is {ds : List D} {k : Nat} {d : D} (h : ds[k]? = some d) (hl : ds.length < 2 ^ 62) : fPop1 ds [.int (k : Nat)] = some (d, ds.eraseIdx k) := by
  have hk := (List.getElem?_eq_some_iff.mp h).1
  show fPop ds [.int (k : Nat)] = _
  unfold fPop
  dsimp only
  rw [if_pos (show -(2 ^ 63) ≤ ((k : Nat) : Int) ∧ ((k : Nat) : Int) < 2 ^ 63 from ⟨by omega, by omega⟩)]
  have : ixN ds.length (k : Nat) = some k := by unfold ixN; rw [if_pos (by omega), if_pos (by omega)]; simp
  rw [this]
  dsimp only
  rw [h]
theorem app_is {ds : List D} {d : D} (h : ds.length < sizeLine) : fApp ds [d] = some (.non, ds ++ [d]) := by
  unfold fApp
  dsimp only
  rw [if_pos h]
theorem wp_dLc2 {it : DA} {t : Tg} {tt : DB} {te : DE} {vs : List Nat} {e : Ev} {Q : D → Ev → Prop} (G : List D → Ev → Prop) (I : List D → Ev → Nat → List D → Ev → Prop) (hi : Wp it e G) (hl : ∀ ds e1, G ds e1 → ds.length ≤ sizeLine) (h0 : ∀ ds e1, G ds e1 → I ds e1 0 [] (wipeE vs e1))
    (hs : ∀ ds e1, G ds e1 → ∀ (j : Nat) (d : D) (acc : List D) (e : Ev), ds[j]? = some d → I ds e1 j acc e → ∃ e1', asgT t d e = some e1' ∧ Wp tt e1' fun b e2 => if b = true then Wp te e2 fun y e3 => I ds e1 (j + 1) (acc ++ [y]) (wipeE vs e3) else I ds e1 (j + 1) acc (wipeE vs e2))
    (hq : ∀ ds e1, G ds e1 → ∀ acc e2, I ds e1 ds.length acc e2 → Q (.lst acc) e2) : Wp (dLc it t tt te vs) e Q :=
  wp_dLc (hi.mono fun ds e1 g => ⟨hl ds e1 g, I ds e1, h0 ds e1 g, hs ds e1 g, hq ds e1 g⟩)
theorem wp_dLcM2 {it : DA} {t : Tg} {tt : DB} {te : DE} {vs : List Nat} {e : Ev} {Q : D → Ev → Prop} (p : D → Bool) (f : D → D) (ds : List D) (e1 : Ev) (hi : Wp it e fun d e' => d = ds ∧ e' = e1) (hl : ds.length ≤ sizeLine)
    (hs : ∀ d ∈ ds, ∃ e2, asgT t d (wipeE vs e1) = some e2 ∧ Wp tt e2 fun b e3 => b = p d ∧ if b = true then Wp te e3 fun y e4 => y = f d ∧ wipeE vs e4 = wipeE vs e1 else wipeE vs e3 = wipeE vs e1) (hq : Q (.lst ((ds.filter p).map f)) (wipeE vs e1)) : Wp (dLc it t tt te vs) e Q :=
  wp_dLcM p f (hi.mono fun d e' ⟨h1, h2⟩ => by subst h1; subst h2; exact ⟨hl, hs, hq⟩)
theorem ws_for2 {c : DS} {t : Tg} {it : DA} {e : Ev} {N : Ev → Prop} {R : D → Ev → Prop} {B C : Ev → Prop} (G : List D → Ev → Prop) (I : List D → Ev → Nat → Ev → Prop) (hi : Wp it e G) (h0 : ∀ ds e1, G ds e1 → I ds e1 0 e1)
    (hs : ∀ ds e1, G ds e1 → ∀ (j : Nat) (d : D) (e : Ev), ds[j]? = some d → I ds e1 j e → ∃ e1', asgT t d e = some e1' ∧ Ws c e1' (I ds e1 (j + 1)) R N (I ds e1 (j + 1))) (hN : ∀ ds e1, G ds e1 → ∀ e, I ds e1 ds.length e → N e) : Ws (sFor t it c) e N R B C :=
  ws_sFor.mpr (hi.mono fun ds e1 g => ws_for (I ds e1) (h0 ds e1 g) (hs ds e1 g) (hN ds e1 g))
end PD
namespace PD
open PySem PySem.Spec PyProof.Rows L2 GF
/-! ### which trees repr takes, how long their texts are -/
theorem textFrom_le : ∀ (ts : List Str) (k : Nat) (acc : Str), (textFrom k acc ts).length ≤ acc.length + piled ts
  | [], _, acc => by show acc.length ≤ acc.length + 0; omega
  | t :: r, k, acc => by
    have ih := textFrom_le r (k + 1) (acc ++ (if k > 0 then ", " else "" : String) ++ t)
    have e : (acc ++ (if k > 0 then ", " else "" : String) ++ t).length ≤ acc.length + 2 + t.length := by
      rw [strLen_append, strLen_append]
      split
      · show acc.length + 2 + t.length ≤ _; omega
      · show acc.length + 0 + t.length ≤ _; omega
    show (textFrom (k + 1) _ r).length ≤ _
    rw [piled_cons]
    omega
theorem listText_le (ts : List Str) : (listText ts).length ≤ 2 + piled ts := by
  have h := textFrom_le ts 0 "["
  unfold listText
  rw [strLen_append]
  have e1 : (("[" : String) : Str).length = 1 := rfl
  have e2 : (("]" : String) : Str).length = 1 := rfl
  omega
theorem dictText_le (ts : List Str) : (dictText ts).length ≤ 2 + piled ts := by
  have e : (dictText ts).length = 1 + (Str.join ", " ts).length + 1 := by
    unfold dictText
    rw [strLen_append, strLen_append]; rfl
  by_cases h : ts = []
  · subst h
    rw [e]
    show 1 + 0 + 1 ≤ 2 + piled []
    omega
  · have := join_length_add ts h
    omega
theorem piled_le {ts : List Str} {B : Nat} (h : ∀ t ∈ ts, t.length ≤ B) : piled ts ≤ ts.length * (B + 2) := by
  induction ts with
  | nil => simp [piled]
  | cons t r ih =>
    have h1 := h t List.mem_cons_self
    have h2 := ih fun x hx => h x (List.mem_cons_of_mem _ hx)
    rw [piled_cons, List.length_cons, Nat.add_mul]
    omega
def Nm (x : Str) : Prop := x.length ≤ 8 ∧ ∀ c ∈ x.cps.toList, c < 16 ^ 8
theorem Nm.len {x : Str} (h : Nm x) : (reprText x).length ≤ 82 := by
  have := StrLaws.reprText_len x h.2
  have := h.1
  omega
theorem tupleText_le (ts : List Str) : (tupleText ts).length ≤ 3 + piled ts := by
  unfold tupleText
  rw [strLen_append, strLen_append]
  have e1 : (("(" : String) : Str).length = 1 := rfl
  have e3 : (((if ts.length == 1 then ",)" else ")" : String) : Str)).length ≤ 2 := by split <;> decide
  by_cases h : ts = []
  · subst h
    have : (Str.join ", " []).length = 0 := rfl
    simp only [piled_nil]
    omega
  · have := join_length_add ts h
    omega
structure Rp (d : D) (p B : Nat) : Prop where
  ok : okR d = true
  sh : (toR d).showable = true
  dp : (toR d).depth ≤ p
  ln : (toR d).shown.length ≤ B
theorem Rp.mono {d : D} {p p' B B' : Nat} (h : Rp d p B) (hp : p ≤ p') (hB : B ≤ B') : Rp d p' B' := ⟨h.ok, h.sh, Nat.le_trans h.dp hp, Nat.le_trans h.ln hB⟩
theorem Rp.repr {d : D} {p B : Nat} (h : Rp d p B) (hp : p ≤ 60) (hB : B ≤ sizeLine) : gRepr [d] = some (.str (toR d).shown) := by
  unfold gRepr
  dsimp only
  rw [if_pos ⟨h.ok, h.sh, Nat.le_trans h.dp hp, Nat.le_trans h.ln hB⟩]
theorem rp_non : Rp .non 0 4 := ⟨rfl, rfl, Nat.le_refl _, by decide⟩
theorem rp_bl (b : Bool) : Rp (.bl b) 0 5 := ⟨rfl, rfl, Nat.le_refl _, by cases b <;> decide⟩
theorem rp_str {s : Str} (h : Nm s) : Rp (.str s) 0 82 := ⟨rfl, rfl, Nat.le_refl _, h.len⟩
theorem rps {ds : List D} {p B : Nat} (h : ∀ d ∈ ds, Rp d p B) : okRs ds = true ∧ PyData.showableAll (toRs ds) = true ∧ PyData.depthAll (toRs ds) ≤ p ∧ piled (PyData.shownAll (toRs ds)) ≤ ds.length * (B + 2) := by
  induction ds with
  | nil => exact ⟨rfl, rfl, Nat.zero_le _, by simp [toRs, PyData.shownAll, piled]⟩
  | cons d ds ih =>
    have h1 := h d List.mem_cons_self
    have ⟨i1, i2, i3, i4⟩ := ih fun x hx => h x (List.mem_cons_of_mem _ hx)
    refine ⟨by simp only [okRs, h1.ok, i1, Bool.and_self], by simp only [toRs, PyData.showableAll, h1.sh, i2, Bool.and_self], ?_, ?_⟩
    · have := h1.dp
      simp only [toRs, PyData.depthAll]
      omega
    · have := h1.ln
      simp only [toRs, PyData.shownAll, piled_cons, List.length_cons, Nat.add_mul]
      omega
theorem rp_lst {ds : List D} {p B : Nat} (h : ∀ d ∈ ds, Rp d p B) : Rp (.lst ds) (p + 1) (2 + ds.length * (B + 2)) := by
  have ⟨h1, h2, h3, h4⟩ := rps h
  refine ⟨h1, by simpa only [toR, PyData.showable] using h2, by simp only [toR, PyData.depth]; omega, ?_⟩
  have := listText_le (PyData.shownAll (toRs ds))
  simp only [toR, PyData.shown]
  omega
theorem rp_tup {ds : List D} {p B : Nat} (h : ∀ d ∈ ds, Rp d p B) : Rp (.tup ds) (p + 1) (3 + ds.length * (B + 2)) := by
  have ⟨h1, h2, h3, h4⟩ := rps h
  refine ⟨h1, by simpa only [toR, PyData.showable] using h2, by simp only [toR, PyData.depth]; omega, ?_⟩
  have := tupleText_le (PyData.shownAll (toRs ds))
  simp only [toR, PyData.shown]
  omega
theorem rpk {ks : List (Str × D)} {p B : Nat} (hk : ∀ q ∈ ks, Nm q.1) (h : ∀ q ∈ ks, Rp q.2 p B) : okRk (ks.map fun q => (.inr q.1, q.2)) = true ∧ PyData.showableKv (toRk (ks.map fun q => (.inr q.1, q.2))) = true ∧ PyData.depthKv (toRk (ks.map fun q => (.inr q.1, q.2))) ≤ p ∧ piled (PyData.shownKv (toRk (ks.map fun q => (.inr q.1, q.2)))) ≤ ks.length * (B + 86) := by
  induction ks with
  | nil => exact ⟨rfl, rfl, Nat.zero_le _, by simp [toRk, PyData.shownKv, piled]⟩
  | cons q ks ih =>
    have h0 := (hk q List.mem_cons_self).len
    have h1 := h q List.mem_cons_self
    have ⟨i1, i2, i3, i4⟩ := ih (fun x hx => hk x (List.mem_cons_of_mem _ hx)) fun x hx => h x (List.mem_cons_of_mem _ hx)
    refine ⟨by simp only [List.map_cons, okRk, h1.ok, i1, Bool.and_self], by simp only [List.map_cons, toRk, keyP, PyData.showableKv, PyData.showable, h1.sh, i2, Bool.and_self], ?_, ?_⟩
    · have := h1.dp
      simp only [List.map_cons, toRk, keyP, PyData.depthKv, PyData.depth]
      omega
    · have := h1.ln
      have e2 : ((": " : String) : Str).length = 2 := rfl
      simp only [List.map_cons, toRk, keyP, PyData.shownKv, PyData.shown, piled_cons, List.length_cons, Nat.add_mul, strLen_append]
      omega
theorem rp_dct {ks : List (Str × D)} {p B : Nat} (hk : ∀ q ∈ ks, Nm q.1) (h : ∀ q ∈ ks, Rp q.2 p B) : Rp (.dct (ks.map fun q => (.inr q.1, q.2))) (p + 1) (2 + ks.length * (B + 86)) := by
  have ⟨h1, h2, h3, h4⟩ := rpk hk h
  refine ⟨h1, by simpa only [toR, PyData.showable] using h2, by simp only [toR, PyData.depth]; omega, ?_⟩
  have := dictText_le (PyData.shownKv (toRk (ks.map fun q => (.inr q.1, q.2))))
  simp only [toR, PyData.shown]
  omega
/-! texts: equality, membership, sorting -/
abbrev sD (ss : List Str) : List D := ss.map .str
theorem strs_sD : ∀ ss : List Str, strsOf (sD ss) = some ss
  | [] => rfl
  | s :: ss => by
    show (strsOf (sD ss)).map (s :: ·) = _
    rw [strs_sD ss]; rfl
theorem flat_sD (ss : List Str) : (sD ss).all flatD = true := by
  rw [List.all_eq_true]
  intro d hd
  obtain ⟨s, _, rfl⟩ := List.mem_map.mp hd
  rfl
theorem in_sD {x : Str} {ss : List Str} : inD (.str x) (.lst (sD ss)) = some (decide (x ∈ ss)) := by
  show (if flatD (.str x) = true ∧ (sD ss).all flatD = true then some ((sD ss).any fun y => eqF y (.str x)) else none) = _
  rw [if_pos ⟨rfl, flat_sD ss⟩]
  refine congrArg some ?_
  induction ss with
  | nil => rfl
  | cons s ss ih =>
    rw [show sD (s :: ss) = .str s :: sD ss from rfl, List.any_cons, ih]
    show ((s == x) || decide (x ∈ ss)) = _
    by_cases h : s = x
    · subst h; simp
    · have : ¬ x = s := fun z => h z.symm
      simp [h, this]
theorem gx_in {x : Str} {ss : List Str} : gIn (.str x) (.lst (sD ss)) = some (.bl (decide (x ∈ ss))) := by unfold gIn; rw [in_sD]; rfl
theorem gx_notIn {x : Str} {ss : List Str} : gNotIn (.str x) (.lst (sD ss)) = some (.bl !decide (x ∈ ss)) := by unfold gNotIn; rw [in_sD]; rfl
theorem eqv_strs : ∀ {xs ys : List Str}, PyData.eqvAll (toPs (sD xs)) (toPs (sD ys)) = decide (xs = ys)
  | [], [] => rfl
  | [], _ :: _ => rfl
  | _ :: _, [] => rfl
  | x :: xs, y :: ys => by
    show (PyData.eqv (.str x) (.str y) && PyData.eqvAll (toPs (sD xs)) (toPs (sD ys))) = _
    rw [eqv_strs]
    show ((x == y) && _) = _
    by_cases h : x = y
    · by_cases h2 : xs = ys <;> simp [h, h2]
    · simp [h]
theorem shaped_strs {xs : List Str} (h : ∀ x ∈ xs, PyData.strOk x = true) : okP (.lst (sD xs)) = true ∧ SeqAt.shaped (toP (.lst (sD xs))) = true := by
  have h1 : okPs (sD xs) = true := by
    induction xs with
    | nil => rfl
    | cons x xs ih => show (okP (.str x) && okPs (sD xs)) = true; rw [ih fun y hy => h y (List.mem_cons_of_mem _ hy)]; rfl
  have h2 : PyData.canLayAll0 (toPs (sD xs)) = true := by
    induction xs with
    | nil => rfl
    | cons x xs ih =>
      show (PyData.canLay0 (.str x) && PyData.canLayAll0 (toPs (sD xs))) = true
      have hx : PyData.canLay0 (.str x) = true := by simpa only [PyData.canLay0] using h x List.mem_cons_self
      rw [ih (fun y hy => h y (List.mem_cons_of_mem _ hy)) (by
        have : (okP (.str x) && okPs (sD xs)) = true := h1
        simpa using (Bool.and_eq_true_iff.mp this).2), hx]; rfl
  have h3 : PyData.depthAll (toPs (sD xs)) = 0 := by
    clear h h1 h2
    induction xs with
    | nil => rfl
    | cons x xs ih =>
      show max (PyData.depth (.str x)) (PyData.depthAll (toPs (sD xs))) = 0
      rw [ih]; simp [PyData.depth]
  refine ⟨h1, ?_⟩
  unfold SeqAt.shaped
  show (PyData.canLay0 (.list (toPs (sD xs))) && decide (PyData.depth (.list (toPs (sD xs))) ≤ 64)) = true
  simp only [PyData.canLay0, PyData.depth, h2, h3]
  rfl
theorem eq_strs {xs ys : List Str} (hx : ∀ x ∈ xs, PyData.strOk x = true) (hy : ∀ y ∈ ys, PyData.strOk y = true) : eqD (.lst (sD xs)) (.lst (sD ys)) = some (decide (xs = ys)) := by
  have ⟨a1, a2⟩ := shaped_strs hx
  have ⟨b1, b2⟩ := shaped_strs hy
  unfold eqD
  rw [show eqA (.lst (sD xs)) (.lst (sD ys)) = none from rfl, if_pos ⟨a1, b1, a2, b2⟩]
  show some (PyData.eqv (.list (toPs (sD xs))) (.list (toPs (sD ys)))) = _
  simp only [PyData.eqv, eqv_strs]
theorem sort_is {ss : List Str} (h : ss.length < 64) : sortV (.lst (sD ss)) = some (.lst (sD (sortS ss))) := by
  show (if (sD ss).length < 64 then ((strsOf (sD ss)).map fun ss => D.lst ((sortS ss).map .str)).or _ else none) = _
  rw [List.length_map, if_pos h, strs_sD]; rfl
theorem sortK_is {α : Type} {ks : List (Str × α)} {v : α → D} (h : ks.length < 64) : sortV (.dct (ks.map fun q => (.inr q.1, v q.2))) = some (.lst (sD (sortS (ks.map (·.1))))) := by
  have e : ((ks.map fun q => ((.inr q.1 : Key), v q.2)).map fun p => kD p.1) = sD (ks.map (·.1)) := by
    rw [List.map_map, sD, List.map_map]; rfl
  show sortD (.lst _) = _
  rw [e]
  exact sort_is (by rw [List.length_map]; exact h)
theorem sortS_perm (ss : List Str) : (sortS ss).Perm ss := List.mergeSort_perm _ _
theorem sortS_inj {xs ys : List Str} : sortS xs = sortS ys ↔ xs.Perm ys := by
  constructor
  · intro h
    exact ((sortS_perm xs).symm.trans (by rw [h])).trans (sortS_perm ys)
  · intro h
    exact sortS_eq ((sortS_perm xs).trans h) (List.pairwise_mergeSort leS_trans leS_total xs)
theorem sortS_pw (xs : List Str) : (sortS xs).Pairwise fun a b => leS a b = true := List.pairwise_mergeSort leS_trans leS_total xs
theorem valD_is {ks : List (Str × Str)} (k : Str) : valD (ks.map fun q => ((.inr q.1 : Key), D.str q.2)) (.inr k) = (ks.lookup k).map .str := by
  unfold valD
  induction ks with
  | nil => rfl
  | cons q ks ih =>
    obtain ⟨a, b⟩ := q
    rw [List.map_cons, List.find?_cons, List.lookup_cons]
    by_cases h : a = k
    · subst h; simp
    · have h2 : ¬ k = a := fun z => h z.symm
      have h3 : (k == a) = false := by simpa using h2
      simp only [h3]
      simp only [show decide ((Sum.inr a : Key) = Sum.inr k) = false by simp [h]]
      exact ih
theorem erase_perm {α : Type} : ∀ {l : List α} {k : Nat} {y : α}, l[k]? = some y → (y :: l.eraseIdx k).Perm l
  | [], k, y, h => by simp at h
  | a :: r, 0, y, h => by
    have e : a = y := Option.some.inj h
    rw [e]
    exact .refl _
  | a :: r, k + 1, y, h => by
    have ih := erase_perm (l := r) (k := k) (y := y) h
    show (y :: a :: r.eraseIdx k).Perm (a :: r)
    exact (List.Perm.swap a y _).trans (ih.cons a)
theorem sv_erase : ∀ (l : List Str) (k : Nat), (sv l).eraseIdx k = sv (l.eraseIdx k)
  | [], _ => rfl
  | _ :: _, 0 => rfl
  | a :: r, k + 1 => by
    show V.str a :: (sv r).eraseIdx k = V.str a :: sv (r.eraseIdx k)
    rw [sv_erase r k]
theorem gAll_map {α : Type} {l : List α} {p : α → Bool} : gAll [.lst (l.map fun x => .bl (p x))] = some (.bl (l.all p)) := by
  have : (l.map fun x => D.bl (p x)) = (l.map p).map .bl := by rw [List.map_map]; rfl
  rw [this, gx_all, List.all_map]
  rfl
theorem cut_1 {ds : List D} : gSl (.lst ds) (some 1) none = some (.lst ds.tail) := by
  show some (D.lst (cutD ds (some 1) none)) = _
  unfold cutD
  cases ds with
  | nil => rfl
  | cons d ds =>
    have e1 : HT.sIx (d :: ds).length 0 (some 1) = 1 := by
      show HT.sIx _ _ (some ((1 : Nat) : Int)) = 1
      rw [HT.sIx_nat, List.length_cons]; omega
    rw [e1, HT.sIx_none]
    rw [List.drop_one, List.tail_cons, List.length_cons, Nat.add_sub_cancel, List.take_length]
theorem zip_is {xs ys : List D} : zipD [.lst xs, .lst ys] = some ((xs.zip ys).map fun q => .tup [q.1, q.2]) := rfl
theorem in_chr {c : Nat} {y : Str} (h : c ∈ y.cps.toList) : gIn (chr1 c) (.str y) = some (.bl true) := by
  have : inD (.str ⟨#[c]⟩) (.str y) = some (decide (c ∈ y.cps.toList)) := by
    show (if (Str.mk #[c]).length = 1 then some (decide ((Str.mk #[c]).cps.getD 0 0 ∈ y.cps.toList)) else none) = _
    rw [if_pos (show (Str.mk #[c]).length = 1 from rfl)]; rfl
  unfold gIn chr1
  rw [this]
  simp [h]
/-- names -/
structure Nw (s : Str) : Prop where
  lo : 1 ≤ s.length
  hi : s.length ≤ 8
  az : ∀ c ∈ s.cps.toList, 97 ≤ c ∧ c ≤ 122
theorem Nw.nm {s : Str} (h : Nw s) : Nm s := ⟨h.hi, fun c hc => by have := (h.az c hc).2; omega⟩
instance (s : Str) : Decidable (Nw s) := if h : 1 ≤ s.length ∧ s.length ≤ 8 ∧ ∀ c ∈ s.cps.toList, 97 ≤ c ∧ c ≤ 122 then isTrue ⟨h.1, h.2.1, h.2.2⟩ else isFalse fun q => h ⟨q.lo, q.hi, q.az⟩
theorem Nw.ok {s : Str} (h : Nw s) : PyData.strOk s = true := by
  unfold PyData.strOk
  rw [← Array.all_toList, List.all_eq_true]
  intro c hc
  have := (h.az c hc).2
  exact decide_eq_true (by omega)
structure Mems (ms : List Str) : Prop where
  up : ms.Pairwise fun a b => a.cps.toList < b.cps.toList
  ne : ms ≠ []
  le : ms.length ≤ 12
  nm : ∀ s ∈ ms, Nw s
theorem Mems.nd {ms : List Str} (h : Mems ms) : ms.Nodup := h.up.imp fun {a b} hab z => by subst z; exact absurd hab (List.lt_irrefl _)
theorem Mems.pos {ms : List Str} (h : Mems ms) : 1 ≤ ms.length := List.length_pos_iff.mpr h.ne
/-! dict(pairs) -/
theorem putD_new {κ α : Type} [DecidableEq κ] {acc : List (κ × α)} {k : κ} {v : α} (h : k ∉ acc.map (·.1)) : putD acc k v = acc ++ [(k, v)] := by
  unfold putD
  rw [if_neg]
  intro z
  obtain ⟨q, hq, e⟩ := List.any_eq_true.mp z
  exact h (List.mem_map.mpr ⟨q, hq, of_decide_eq_true e⟩)
theorem merge_new : ∀ {ks acc : List (Key × D)}, ((acc ++ ks).map (·.1)).Nodup → mergeD acc ks = acc ++ ks
  | [], acc, _ => (List.append_nil acc).symm
  | (k, v) :: ks, acc, h => by
    have h1 : k ∉ acc.map (·.1) := by
      rw [List.map_append, List.nodup_append] at h
      exact fun z => h.2.2 k z k List.mem_cons_self rfl
    show mergeD (putD acc k v) ks = _
    rw [putD_new h1, merge_new (by rw [List.append_assoc]; exact h), List.append_assoc]
    rfl
theorem pairs_is {α : Type} (k : α → Str) (d : α → D) : ∀ ps : List α, (ps.map fun q => D.tup [.str (k q), d q]).mapM pairD = some (ps.map fun q => ((.inr (k q) : Key), d q))
  | [] => rfl
  | q :: ps => by
    rw [List.map_cons, List.mapM_cons, pairs_is k d ps]
    rfl
theorem dictA_is {α : Type} {k : α → Str} {d : α → D} {ps : List α} (h : (ps.map k).Nodup) : gDictA [.lst (ps.map fun q => .tup [.str (k q), d q])] = some (.dct (ps.map fun q => (.inr (k q), d q))) := by
  show ((ps.map fun q => D.tup [.str (k q), d q]).mapM pairD).map _ = _
  rw [pairs_is]
  show some (D.dct (mergeD [] _)) = _
  rw [merge_new]
  · rfl
  · rw [List.nil_append, List.map_map]
    have : ((ps.map k).map (Sum.inr : Str → Key)).Nodup := List.Pairwise.map _ (fun a b hab z => hab (by cases z; rfl)) h
    rwa [List.map_map] at this
theorem cut_to {ds : List D} {k : Nat} (h : k ≤ ds.length) : gSl (.lst ds) none (some (k : Nat)) = some (.lst (ds.take k)) := by
  show some (D.lst (cutD ds none (some (k : Nat)))) = _
  unfold cutD
  rw [HT.sIx_none, HT.sIx_nat, List.drop_zero, Nat.sub_zero, Nat.min_eq_left h]
theorem cat_is {xs ys : List D} (h : xs.length + ys.length ≤ sizeLine) : gCat (.lst xs) (.lst ys) = some (.lst (xs ++ ys)) := by
  unfold gCat
  dsimp only
  rw [if_pos h]
theorem listD_is {ks : List (Key × D)} (h : ks.length ≤ sizeLine) : gListV [.dct ks] = some (.lst (ks.map fun p => kD p.1)) := by
  show (if ks.length ≤ sizeLine then some (D.lst (ks.map fun p => kD p.1)) else none) = _
  rw [if_pos h]
theorem pop0_is {ds : List D} {d : D} : fPop0 (ds ++ [d]) [] = some (d, ds) := by
  show fPop (ds ++ [d]) [] = _
  unfold fPop
  dsimp only
  rw [show (ds ++ [d])[(ds ++ [d]).length - 1]? = some d by simp]
  dsimp only
  rw [List.dropLast_concat]
end PD
namespace PD
open PySem PySem.Spec PyProof.Rows L2 GF
/-! ### plain lists -/
theorem nd_sub_le {α : Type} [DecidableEq α] : ∀ {a b : List α}, a.Nodup → (∀ x ∈ a, x ∈ b) → a.length ≤ b.length
  | [], _, _, _ => Nat.zero_le _
  | x :: a, b, h, s => by
    have ⟨h1, h2⟩ := List.nodup_cons.mp h
    have hx := s x List.mem_cons_self
    have := nd_sub_le (b := b.erase x) h2 fun y hy => (List.mem_erase_of_ne fun e => h1 (by rw [← e]; exact hy)).mpr (s y (List.mem_cons_of_mem _ hy))
    rw [List.length_erase_of_mem hx] at this
    have := List.length_pos_of_mem hx
    rw [List.length_cons]
    omega
theorem perm_of_sub {α : Type} [DecidableEq α] : ∀ {a b : List α}, a.Nodup → (∀ x ∈ a, x ∈ b) → b.length ≤ a.length → a.Perm b
  | [], b, _, _, l => by
    have : b = [] := List.eq_nil_of_length_eq_zero (Nat.le_zero.mp l)
    rw [this]
  | x :: a, b, h, s, l => by
    have ⟨h1, h2⟩ := List.nodup_cons.mp h
    have hx := s x List.mem_cons_self
    have := perm_of_sub (b := b.erase x) h2 (fun y hy => (List.mem_erase_of_ne fun e => h1 (by rw [← e]; exact hy)).mpr (s y (List.mem_cons_of_mem _ hy))) (by
      rw [List.length_erase_of_mem hx]
      rw [List.length_cons] at l
      omega)
    exact (this.cons x).trans (List.perm_cons_erase hx).symm
theorem idx_sD {x : Str} : ∀ {ss : List Str}, x ∈ ss → (sD ss).findIdx? (fun y => eqF y (.str x)) = some (ss.idxOf x)
  | [], h => by cases h
  | s :: ss, h => by
    rw [show sD (s :: ss) = .str s :: sD ss from rfl, List.findIdx?_cons, List.idxOf_cons]
    show (if (s == x) = true then _ else _) = _
    by_cases e : s = x
    · subst e; simp
    · have e2 : (s == x) = false := by simpa using e
      rw [e2, idx_sD ((List.mem_cons.mp h).resolve_left fun z => e z.symm)]
      rfl
theorem gx_index {x : Str} {ss : List Str} (h : x ∈ ss) : gIndex (.lst (sD ss)) [.str x] = some (.int (ss.idxOf x : Nat)) := by
  show (idxD (.str x) (sD ss)).map _ = _
  unfold idxD
  rw [if_pos ⟨rfl, flat_sD ss⟩, idx_sD h]; rfl
theorem idx_take {x : Str} : ∀ {ss : List Str} {k : Nat}, ss.idxOf x < k → x ∈ ss → x ∈ ss.take k
  | [], _, _, h => by cases h
  | _ :: _, 0, h, _ => by omega
  | s :: ss, k + 1, h, hx => by
    rw [List.take_succ_cons]
    by_cases e : s = x
    · rw [e]; exact List.mem_cons_self
    · rw [List.idxOf_cons, show (s == x) = false by simpa using e] at h
      have h : ss.idxOf x + 1 < k + 1 := h
      exact List.mem_cons_of_mem _ (idx_take (by omega) ((List.mem_cons.mp hx).resolve_left fun z => e z.symm))
theorem idx_of_take {x : Str} : ∀ {ss : List Str} {k : Nat}, x ∈ ss.take k → ss.idxOf x < k
  | [], k, h => by simp at h
  | _ :: _, 0, h => by cases h
  | s :: ss, k + 1, h => by
    rw [List.take_succ_cons] at h
    rw [List.idxOf_cons]
    by_cases e : s = x
    · rw [show (s == x) = true by simpa using e]; exact Nat.succ_pos _
    · rw [show (s == x) = false by simpa using e]
      have := idx_of_take ((List.mem_cons.mp h).resolve_left fun z => e z.symm)
      show ss.idxOf x + 1 < k + 1
      omega
theorem idx_mid {x : Str} {a b : List Str} (h : x ∉ a) : (a ++ x :: b).idxOf x = a.length := by
  induction a with
  | nil => simp [List.idxOf_cons]
  | cons y a ih =>
    rw [List.cons_append, List.idxOf_cons, show (y == x) = false by
      have : y ≠ x := fun e => h (by rw [e]; exact List.mem_cons_self)
      simpa using this]
    show (a ++ x :: b).idxOf x + 1 = a.length + 1
    rw [ih fun z => h (List.mem_cons_of_mem _ z)]
theorem wp_dRm {T : String} {g : D → List D → Option D} {a : DE} {cs : DA} {e : Ev} {Q : D → Ev → Prop} : Wp (dRm T g a cs) e Q ↔ Wp a e fun d e1 => tyD d = T ∧ Wp cs e1 fun ds e2 => ∃ z, g d ds = some z ∧ Q z e2 := by
  unfold dRm
  rw [wp_bnd]
  refine iff_of_eq (congrArg _ (funext fun d => funext fun e1 => ?_))
  by_cases h : tyD d = T
  · simp only [h, if_true, wp_bnd, wp_lf, true_and]
  · simp only [h, if_false, wp_none, false_and]
theorem ws_sSwp {i u v : Nat} {cs : DA} {e : Ev} {N : Ev → Prop} {R : D → Ev → Prop} {B C : Ev → Prop} : Ws (sSwp i u v cs) e N R B C ↔ Wp cs e fun ds e1 => ∃ x y, ds = [x, y] ∧ Ws (seq (stoV i u x) (stoV i v y)) e1 N R B C := by
  unfold sSwp
  rw [ws_bndS]
  refine iff_of_eq (congrArg _ (funext fun ds => funext fun e1 => propext ⟨?_, ?_⟩))
  · intro h
    match ds, h with
    | [x, y], h => exact ⟨x, y, rfl, h⟩
    | [], ⟨_, h, _⟩ => cases h
    | [_], ⟨_, h, _⟩ => cases h
    | _ :: _ :: _ :: _, ⟨_, h, _⟩ => cases h
  · rintro ⟨x, y, rfl, h⟩
    exact h
theorem stoL_is {ds : List D} {k : Nat} {d : D} (h : k < ds.length) : stoD (.lst ds) (.int (k : Nat)) d = some (.lst (ds.set k d)) := by
  show (ixN ds.length (k : Nat)).map _ = _
  unfold ixN
  rw [if_pos (by omega), if_pos (by omega), Int.toNat_natCast]; rfl
theorem ins_is {ds : List D} {k : Nat} {d : D} (h : ds.length < sizeLine) (hk : k < 1000000) : fIns ds [.int (k : Nat), d] = some (.non, ds.take k ++ [d] ++ ds.drop k) := by
  unfold fIns
  dsimp only
  rw [if_pos ⟨h, by omega, by omega⟩, Int.toNat_natCast]
theorem min_is {a b : Nat} : gMin2 [.int (a : Nat), .int (b : Nat)] = some (.int ((min a b : Nat) : Nat)) := by
  show some (D.int (if ((b : Nat) : Int) < (a : Nat) then (b : Nat) else (a : Nat))) = _
  refine congrArg some (congrArg D.int ?_)
  split <;> omega
theorem max_is {a b : Nat} : gMax2 [.int (a : Nat), .int (b : Nat)] = some (.int ((max a b : Nat) : Nat)) := by
  show some (D.int (if ((b : Nat) : Int) > (a : Nat) then (b : Nat) else (a : Nat))) = _
  refine congrArg some (congrArg D.int ?_)
  split <;> omega
theorem gTup_is {ds : List D} : gTupV (.lst ds) = some (.tup ds) := rfl
theorem ii_s {s : Str} : isiD (.str s) .str = some true := rfl
theorem ii_l {ds : List D} : isiD (.lst ds) .lst = some true := rfl
theorem ii_d {ks : List (Key × D)} : isiD (.dct ks) .dct = some true := rfl
theorem gx_ty {ds : List D} : tyD (.lst ds) = "list" := rfl
/-! firsts and orders -/
def DueP (f : Str) (ps : List (Str × Str)) : List Str → List Str → Prop
  | _, [] => True
  | done, s :: ss => s ∉ done ∧ ((s = f ∧ done = []) ∨ (s ≠ f ∧ ∃ v, (s, v) ∈ ps ∧ v ∈ done)) ∧ DueP f ps (done ++ [s]) ss
def GoodP (f : Str) (ps : List (Str × Str)) (ss : List Str) : Prop := ∃ r, ss = f :: r ∧ r.Perm (ps.map (·.1)) ∧ ∀ q ∈ ps, ss.idxOf q.2 < ss.idxOf q.1
theorem due_keys {f : Str} {ps : List (Str × Str)} : ∀ {r done : List Str}, done ≠ [] → DueP f ps done r → r.Nodup ∧ (∀ s ∈ r, s ∉ done ∧ s ∈ ps.map (·.1)) ∧ ∀ a s b, r = a ++ s :: b → ∃ v, (s, v) ∈ ps ∧ v ∈ done ++ a
  | [], _, _, _ => ⟨List.nodup_nil, ⟨fun _ h => (by cases h), fun a s b h => (by cases a <;> cases h)⟩⟩
  | s :: r, done, hd, h => by
    obtain ⟨h1, h2, h3⟩ := h
    obtain ⟨h4, v, h5, h6⟩ := h2.resolve_left fun z => hd z.2
    obtain ⟨i1, i2, i3⟩ := due_keys (done := done ++ [s]) (by simp) h3
    refine ⟨List.nodup_cons.mpr ⟨fun z => (i2 s z).1 (List.mem_append_right _ List.mem_cons_self), i1⟩, fun x hx => ?_, fun a x b e => ?_⟩
    · rcases List.mem_cons.mp hx with rfl | hx
      · exact ⟨h1, List.mem_map.mpr ⟨_, h5, rfl⟩⟩
      · exact ⟨fun z => (i2 x hx).1 (List.mem_append_left _ z), (i2 x hx).2⟩
    · cases a with
      | nil => cases e; exact ⟨v, h5, by simpa using h6⟩
      | cons y a =>
        cases e
        obtain ⟨w, w1, w2⟩ := i3 a x b rfl
        exact ⟨w, w1, by rw [List.append_assoc] at w2; exact w2⟩
theorem uniq_val {ps : List (Str × Str)} (nd : (ps.map (·.1)).Nodup) {s v w : Str} (h1 : (s, v) ∈ ps) (h2 : (s, w) ∈ ps) : v = w := by
  induction ps with
  | nil => cases h1
  | cons q ps ih =>
    rw [List.map_cons, List.nodup_cons] at nd
    rcases List.mem_cons.mp h1 with e1 | g1
    · rcases List.mem_cons.mp h2 with e2 | g2
      · cases e1.trans e2.symm; rfl
      · exact (nd.1 (List.mem_map.mpr ⟨(s, w), g2, by rw [← e1]⟩)).elim
    · rcases List.mem_cons.mp h2 with e2 | g2
      · exact (nd.1 (List.mem_map.mpr ⟨(s, v), g1, by rw [← e2]⟩)).elim
      · exact ih nd.2 g1 g2
theorem due_good {f : Str} {ps : List (Str × Str)} (nd : (ps.map (·.1)).Nodup) {ss : List Str} (hl : ss.length = ps.length + 1) (h : DueP f ps [] ss) : GoodP f ps ss := by
  cases ss with
  | nil => cases hl
  | cons s r =>
    obtain ⟨h1, h2, h3⟩ := h
    have e : s = f := by
      rcases h2 with z | ⟨_, v, _, z⟩
      · exact z.1
      · cases z
    subst e
    obtain ⟨i1, i2, i3⟩ := due_keys (done := [s]) (by simp) h3
    have pm : r.Perm (ps.map (·.1)) := perm_of_sub i1 (fun x hx => (i2 x hx).2) (by rw [List.length_map]; rw [List.length_cons] at hl; omega)
    refine ⟨r, rfl, pm, fun q hq => ?_⟩
    have hr : q.1 ∈ r := pm.symm.subset (List.mem_map.mpr ⟨q, hq, rfl⟩)
    obtain ⟨a, b, rfl⟩ := List.append_of_mem hr
    obtain ⟨v, h5, h6⟩ := i3 a q.1 b rfl
    cases uniq_val nd (show (q.1, q.2) ∈ ps from hq) h5
    have na : q.1 ∉ s :: a := by
      intro z
      rcases List.mem_cons.mp z with z | z
      · exact (i2 q.1 hr).1 (by rw [z]; exact List.mem_cons_self)
      · exact (List.nodup_append.mp i1).2.2 _ z _ List.mem_cons_self rfl
    rw [show s :: (a ++ q.1 :: b) = (s :: a) ++ q.1 :: b from rfl, idx_mid na]
    exact idx_of_take (by rw [List.take_left' rfl]; exact h6)
theorem good_due {f : Str} {ps : List (Str × Str)} (nd : (ps.map (·.1)).Nodup) (nf : f ∉ ps.map (·.1)) (hv : ∀ q ∈ ps, q.2 = f ∨ q.2 ∈ ps.map (·.1)) {ss : List Str} (h : GoodP f ps ss) : DueP f ps [] ss := by
  obtain ⟨r, rfl, pm, hi⟩ := h
  have ndr : (f :: r).Nodup := List.nodup_cons.mpr ⟨fun z => nf (pm.subset z), pm.nodup_iff.mpr nd⟩
  have go : ∀ (b a : List Str), a ++ b = r → DueP f ps (f :: a) b := by
    intro b
    induction b with
    | nil => intro _ _; trivial
    | cons s b ih =>
      intro a e
      have hs : s ∈ r := by rw [← e]; exact List.mem_append_right _ List.mem_cons_self
      obtain ⟨q, hq, rfl⟩ := List.mem_map.mp (pm.subset hs)
      have na : q.1 ∉ f :: a := by
        intro z
        rw [← e] at ndr
        have : ((f :: a) ++ q.1 :: b).Nodup := ndr
        exact (List.nodup_append.mp this).2.2 _ z _ List.mem_cons_self rfl
      refine ⟨na, .inr ⟨fun z => na (by rw [z]; exact List.mem_cons_self), q.2, hq, ?_⟩, ?_⟩
      · have h1 := hi q hq
        rw [← e, show f :: (a ++ q.1 :: b) = (f :: a) ++ q.1 :: b from rfl, idx_mid na] at h1
        have hm : q.2 ∈ (f :: a) ++ q.1 :: b := by
          rcases hv q hq with z | z
          · rw [z]; exact List.mem_cons_self
          · exact List.mem_cons_of_mem _ (by show q.2 ∈ a ++ q.1 :: b; rw [e]; exact pm.symm.subset z)
        have := idx_take h1 hm
        rw [List.take_left' rfl] at this
        exact this
      · exact ih (a ++ [q.1]) (by rw [List.append_assoc]; exact e)
  exact ⟨fun z => (by cases z), .inl ⟨rfl, rfl⟩, go r [] rfl⟩
end PD
namespace PD
open PySem PySem.Spec PyProof.Rows L2 GF
/-! ### from a law's meaning to the law -/
def spLaw (K : PySem.W.Frag) : Sp := fun vs H Q _ => ∃ (a : Addr) (ns : List Int), vs = [.ref a] ∧ SqL K H a (ns.map V.int) ∧ ns.length ≤ 63 ∧ ∀ H2, Q (.bl true) H2
theorem GFnG.weak {P : Program} {w : World} {K : PySem.W.Frag} {mg : Str → Option Value} {base : Heap} {k : Nat} {f : Addr} {fd : FuncData} {ps : List Str} {sp sp' : Sp} (F : FnG P w K mg base k f fd ps sp) (h : ∀ vs H Q E, sp' vs H Q E → sp vs H Q E) : FnG P w K mg base k f fd ps sp' :=
  ⟨fun vs H Q E q => F.len vs H Q E (h _ _ _ _ q), fun A hg outer s H g us vs Q E hr e0 hb rv hs => F.run A hg outer s H g us vs Q E hr e0 hb rv (h _ _ _ _ hs)⟩
theorem sqL_unl {K : PySem.W.Frag} {H : Hp} {a : Addr} {xs : List V} (h : SqL K H a xs) : SqL K (unl H) a xs := by
  rcases h with (h | ⟨o, h⟩) | h
  · exact .inl (.inl (unl_of h rfl))
  · refine .inl (.inr ⟨o, ?_⟩)
    unfold unl
    rw [h]
  · exact .inr h
theorem law_of {P : Program} {w : World} {K : PySem.W.Frag} {CA : Str → Addr} {mg : Str → Option Value} {base : Heap} {k : Nat} {f : Addr} {fd : FuncData} {ps : List Str} {F : FD} (G : FnG P w K mg base k f fd ps (spD K CA ⟨[0], 0⟩ F)) (hF : ∀ ns : List Int, ns.length ≤ 63 → Wf F [.scr ns] fun r _ => r = .bl true) : FnG P w K mg base k f fd ps (spLaw K) :=
  GFnG.weak G fun vs H Q E ⟨a, ns, hv, hS, hl, hQ⟩ => by
    obtain ⟨r, ds', h1, h2⟩ := hF ns hl
    subst hv; subst h2
    refine ⟨⟨unl H, H, fun _ => []⟩, [.scr ns], .bl true, ds', rfl, rfl, rfl, ⟨fun _ _ e => e, rfl, fun i d e => ?_, fun _ _ => rfl, fun _ => List.nodup_nil, fun _ _ _ _ z => (by cases z), fun _ _ z => (by cases z), fun _ _ _ z => (by cases z), fun _ z => (by cases z), fun b xs e => unl_of e rfl⟩, h1, fun w' v L _ _ V _ => ?_⟩
    · match i, e with
      | 0, e =>
        cases e
        exact ⟨.ref a, rfl, rfl, a, rfl, sqL_unl hS⟩
      | i + 1, e => cases e
    · have : v = .bl true := V.1.2
      rw [this]
      exact hQ _
end PD
namespace PD
open PySem PySem.Spec PyProof.Rows L2 GF
/-! ### histories and lists, plainly -/
/-- the givers of the handovers to m -/
def gv (h : List Str) (m : Str) : List Str := ((h.zip h.tail).filter fun q => decide (q.2 = m)).map (·.1)
theorem gv_cons {g x m : Str} {t : List Str} : gv (g :: x :: t) m = (if m = x then [g] else []) ++ gv (x :: t) m := by
  show (((g, x) :: (x :: t).zip t).filter fun q => decide (q.2 = m)).map (·.1) = _
  rw [List.filter_cons]
  by_cases h : m = x
  · subst h; simp; rfl
  · have h2 : ¬ x = m := fun z => h z.symm
    simp [h, h2]; rfl
theorem gv_one {x m : Str} : gv [x] m = [] := rfl
theorem gv_snoc : ∀ {h : List Str} {y x m : Str}, gv (h ++ [y, x]) m = gv (h ++ [y]) m ++ (if m = x then [y] else [])
  | [], y, x, m => by
    show gv [y, x] m = gv [y] m ++ _
    rw [gv_cons, gv_one, gv_one, List.append_nil, List.nil_append]
  | [a], y, x, m => by
    show gv (a :: y :: [x]) m = gv (a :: y :: []) m ++ _
    rw [gv_cons, gv_cons, gv_cons, gv_one, gv_one, List.append_nil, List.append_nil]
  | a :: b :: h, y, x, m => by
    show gv (a :: b :: (h ++ [y, x])) m = gv (a :: b :: (h ++ [y])) m ++ _
    rw [gv_cons, gv_cons, List.append_assoc]
    exact congrArg _ (gv_snoc (h := b :: h))
theorem gv_mem {h : List Str} {m g : Str} (hg : g ∈ gv h m) : g ∈ h ∧ m ∈ h := by
  obtain ⟨q, hq, rfl⟩ := List.mem_map.mp hg
  obtain ⟨h1, h2⟩ := List.mem_filter.mp hq
  obtain ⟨a, b⟩ := q
  have h3 := List.of_mem_zip h1
  exact ⟨h3.1, by rw [← of_decide_eq_true h2]; exact List.mem_of_mem_tail h3.2⟩
/-- neighbours differ -/
def Hs (h : List Str) : Prop := ∀ q ∈ h.zip h.tail, q.1 ≠ q.2
theorem gv_ne {h : List Str} (hs : Hs h) {m g : Str} (hg : g ∈ gv h m) : g ≠ m := by
  obtain ⟨q, hq, rfl⟩ := List.mem_map.mp hg
  obtain ⟨h1, h2⟩ := List.mem_filter.mp hq
  have := hs q h1
  rw [of_decide_eq_true h2] at this
  exact this
theorem hs_of {h : List Str} (f : ∀ m, ∀ g ∈ gv h m, g ≠ m) : Hs h := fun q hq => f q.2 q.1 (List.mem_map.mpr ⟨q, List.mem_filter.mpr ⟨hq, decide_eq_true rfl⟩, rfl⟩)
/-- the same lists and the same end: the same history -/
theorem gv_inj : ∀ (n : Nat) {h k : List Str} {l : Str}, h.length = n → (∀ m, gv (h ++ [l]) m = gv (k ++ [l]) m) → h = k := by
  intro n
  induction n with
  | zero =>
    intro h k l hn e
    have : h = [] := List.eq_nil_of_length_eq_zero hn
    subst this
    cases hk : k.reverse with
    | nil => exact (List.reverse_eq_nil_iff.mp hk).symm
    | cons y r =>
      have : k = r.reverse ++ [y] := by have := congrArg List.reverse hk; rw [List.reverse_reverse, List.reverse_cons] at this; exact this
      subst this
      have := e l
      rw [List.append_assoc] at this
      have h2 := this.symm.trans (rfl : gv ([] ++ [l]) l = [])
      rw [show [y] ++ [l] = [y, l] from rfl, gv_snoc, if_pos rfl] at h2
      have := congrArg List.length h2
      rw [List.length_append, List.nil_append, gv_one, List.length_singleton, List.length_nil] at this
      omega
  | succ n ih =>
    intro h k l hn e
    cases hh : h.reverse with
    | nil => rw [List.reverse_eq_nil_iff.mp hh] at hn; cases hn
    | cons y r =>
      have e1 : h = r.reverse ++ [y] := by have := congrArg List.reverse hh; rw [List.reverse_reverse, List.reverse_cons] at this; exact this
      subst e1
      cases hk : k.reverse with
      | nil =>
        rw [List.reverse_eq_nil_iff.mp hk] at e
        have := e l
        rw [List.append_assoc, show [y] ++ [l] = [y, l] from rfl, gv_snoc, if_pos rfl] at this
        have h2 := this.trans (rfl : gv ([] ++ [l]) l = [])
        have := congrArg List.length h2
        rw [List.length_append, List.length_singleton, List.nil_append, gv_one, List.length_nil] at this
        omega
      | cons z s =>
        have e2 : k = s.reverse ++ [z] := by have := congrArg List.reverse hk; rw [List.reverse_reverse, List.reverse_cons] at this; exact this
        subst e2
        have e3 : ∀ m, gv (r.reverse ++ [y]) m ++ (if m = l then [y] else []) = gv (s.reverse ++ [z]) m ++ (if m = l then [z] else []) := fun m => by
          have := e m
          rw [List.append_assoc, List.append_assoc, show [y] ++ [l] = [y, l] from rfl, show [z] ++ [l] = [z, l] from rfl, gv_snoc, gv_snoc] at this
          exact this
        have e4 := e3 l
        rw [if_pos rfl, if_pos rfl] at e4
        have e5 := List.append_inj' e4 rfl
        have yz : y = z := by simpa using e5.2
        subst yz
        have e6 : ∀ m, gv (r.reverse ++ [y]) m = gv (s.reverse ++ [y]) m := fun m => by
          by_cases hm : m = l
          · subst hm; exact e5.1
          · have := e3 m
            simp only [if_neg hm, List.append_nil] at this
            exact this
        rw [ih (by rw [List.length_append, List.length_singleton] at hn; omega) e6]
/-- how often m stands in the lists -/
def cnt (ms : List Str) (L : Str → List Str) (m : Str) : Nat := (ms.map fun y => (L y).count m).sum
theorem sum_upd {ms : List Str} (nd : ms.Nodup) {x : Str} (hx : x ∈ ms) (F : Str → Nat) (a : Nat) : (ms.map fun y => if y = x then a else F y).sum + F x = (ms.map F).sum + a := by
  induction ms with
  | nil => cases hx
  | cons z ms ih =>
    have ⟨h1, h2⟩ := List.nodup_cons.mp nd
    rw [List.map_cons, List.map_cons, List.sum_cons, List.sum_cons]
    by_cases e : z = x
    · subst e
      rw [if_pos rfl]
      have : (ms.map fun y => if y = z then a else F y) = ms.map F := List.map_congr_left fun y hy => if_neg fun q => h1 (by rw [← q]; exact hy)
      rw [this]; omega
    · rw [if_neg e]
      have := ih h2 ((List.mem_cons.mp hx).resolve_left fun q => e q.symm)
      omega
theorem cnt_upd {ms : List Str} (nd : ms.Nodup) {x : Str} (hx : x ∈ ms) {L : Str → List Str} {r : List Str} {g m : Str} (h : L x = r ++ [g]) : cnt ms L m = cnt ms (fun y => if y = x then r else L y) m + (if m = g then 1 else 0) := by
  have h1 := sum_upd nd hx (fun y => (L y).count m) (r.count m)
  have e : (ms.map fun y => if y = x then r.count m else (L y).count m) = ms.map fun y => (if y = x then r else L y).count m := List.map_congr_left fun y _ => by split <;> rfl
  rw [e] at h1
  have h2 : (L x).count m = r.count m + (if m = g then 1 else 0) := by
    rw [h, List.count_append]
    by_cases q : m = g
    · subst q; simp
    · rw [if_neg q, List.count_cons_of_ne (fun z => q z.symm)]; rfl
  show (ms.map fun y => (L y).count m).sum = (ms.map fun y => (if y = x then r else L y).count m).sum + _
  omega
/-- the lists have as many entries as they are named, but for the first and the last holder -/
def Bal (ms : List Str) (f l : Str) (L : Str → List Str) : Prop := ∀ m ∈ ms, (L m).length + (if m = f then 1 else 0) = cnt ms L m + (if m = l then 1 else 0)
def Rk (ms : List Str) (f : Str) (L : Str → List Str) (ρ : Str → Nat) : Prop := ∀ m ∈ ms, m ≠ f → ∀ g r, L m = g :: r → g = f ∨ ρ g < ρ m
def En (ms : List Str) (L : Str → List Str) : Prop := ∀ m ∈ ms, ∀ g ∈ L m, g ∈ ms ∧ g ≠ m
/-- the walk from the end -/
structure Wk (ms : List Str) (f l : Str) (L R : Str → List Str) (x : Str) (p : List Str) : Prop where
  pre : ∀ m ∈ ms, L m = R m ++ gv (x :: p) m
  bal : Bal ms f x R
  mem : ∀ y ∈ x :: p, y ∈ ms
  last : (x :: p).getLast? = some l
theorem Wk.step {ms : List Str} {f l x : Str} {L R : Str → List Str} {p r : List Str} {g : Str} (nd : ms.Nodup) (en : En ms L) (w : Wk ms f l L R x p) (h : R x = r ++ [g]) : Wk ms f l L (fun y => if y = x then r else R y) g (x :: p) := by
  have hx := w.mem x List.mem_cons_self
  have hg := (en x hx g (by rw [w.pre x hx, h]; simp))
  refine ⟨fun m hm => ?_, fun m hm => ?_, fun y hy => ?_, ?_⟩
  · rw [w.pre m hm, gv_cons]
    by_cases e : m = x
    · subst e; rw [if_pos rfl, if_pos rfl, h, List.append_assoc]
    · rw [if_neg e, if_neg e]; rfl
  · have h1 := w.bal m hm
    have h2 := cnt_upd nd hx (m := m) h
    by_cases e : m = x
    · subst e
      have e2 : ¬ m = g := fun z => hg.2 z.symm
      rw [if_pos rfl] at h1
      rw [if_neg e2] at h2 ⊢
      rw [h, List.length_append, List.length_singleton] at h1
      rw [if_pos rfl]
      omega
    · rw [if_neg e] at h1
      rw [if_neg e]
      omega
  · rcases List.mem_cons.mp hy with rfl | hy
    · exact hg.1
    · exact w.mem y hy
  · rw [List.getLast?_cons_cons]; exact w.last
theorem cnt_pos {ms : List Str} {L : Str → List Str} {m y : Str} (hy : y ∈ ms) (h : m ∈ L y) : 1 ≤ cnt ms L m := by
  unfold cnt
  induction ms with
  | nil => cases hy
  | cons z ms ih =>
    rw [List.map_cons, List.sum_cons]
    rcases List.mem_cons.mp hy with rfl | hy
    · have := List.count_pos_iff.mpr h; omega
    · have := ih hy; omega
theorem Wk.stop {ms : List Str} {f l x : Str} {L R : Str → List Str} {p : List Str} {ρ : Str → Nat} (en : En ms L) (rk : Rk ms f L ρ) (w : Wk ms f l L R x p) (h : R x = []) : x = f ∧ ∀ m ∈ ms, R m = [] := by
  have hx := w.mem x List.mem_cons_self
  have b := w.bal x hx
  rw [h, if_pos rfl] at b
  have xf : x = f := by
    by_cases e : x = f
    · exact e
    · rw [if_neg e, List.length_nil] at b; omega
  refine ⟨xf, fun m hm => ?_⟩
  have go : ∀ n m, m ∈ ms → ρ m ≤ n → R m = [] := by
    intro n
    induction n with
    | zero =>
      intro m hm hn
      cases hR : R m with
      | nil => rfl
      | cons g r =>
        exfalso
        have mf : m ≠ f := fun z => by rw [z, ← xf, h] at hR; cases hR
        have hL : L m = g :: (r ++ gv (x :: p) m) := by rw [w.pre m hm, hR]; rfl
        rcases rk m hm mf g _ hL with e | e
        · have hb := w.bal f (by rw [← xf]; exact hx)
          have h1 := cnt_pos (L := R) hm (show f ∈ R m by rw [hR, ← e]; exact List.mem_cons_self)
          rw [if_pos rfl, xf, if_pos rfl, ← xf, h, List.length_nil] at hb
          rw [xf] at hb
          omega
        · omega
    | succ n ih =>
      intro m hm hn
      cases hR : R m with
      | nil => rfl
      | cons g r =>
        exfalso
        have mf : m ≠ f := fun z => by rw [z, ← xf, h] at hR; cases hR
        have hL : L m = g :: (r ++ gv (x :: p) m) := by rw [w.pre m hm, hR]; rfl
        have hg := (en m hm g (by rw [hL]; exact List.mem_cons_self)).1
        have h1 := cnt_pos (L := R) hm (show g ∈ R m by rw [hR]; exact List.mem_cons_self)
        have hb := w.bal g hg
        have hRg : R g = [] := by
          rcases rk m hm mf g _ hL with e | e
          · rw [e, ← xf]; exact h
          · exact ih g hg (by omega)
        rw [hRg, List.length_nil, xf] at hb
        split at hb <;> omega
  exact go (ρ m) m hm (Nat.le_refl _)
theorem Wk.start {ms : List Str} {f l : Str} {L : Str → List Str} (hl : l ∈ ms) (b : Bal ms f l L) : Wk ms f l L L l [] :=
  ⟨fun m _ => by rw [gv_one, List.append_nil], b, fun y hy => by rw [List.mem_singleton.mp hy]; exact hl, rfl⟩
/-! the lists of a history -/
theorem bal_gv {ms : List Str} (nd : ms.Nodup) : ∀ {t : List Str} {x l : Str}, (∀ y ∈ x :: t, y ∈ ms) → (x :: t).getLast? = some l → Bal ms x l (gv (x :: t))
  | [], x, l, hm, hl, m, _ => by
    have el : x = l := by simpa using hl
    subst el
    have : ∀ ms : List Str, cnt ms (gv [x]) m = 0 := by
      intro ms
      unfold cnt
      induction ms with
      | nil => rfl
      | cons z ms ih => rw [List.map_cons, List.sum_cons, gv_one, List.count_nil, Nat.zero_add]; exact ih
    rw [this, gv_one, List.length_nil]
  | y :: t, x, l, hm, hl, m, hmm => by
    have ih := bal_gv nd (t := t) (x := y) (l := l) (fun z hz => hm z (List.mem_cons_of_mem _ hz)) (by rw [List.getLast?_cons_cons] at hl; exact hl) m hmm
    have hy : y ∈ ms := hm y (List.mem_cons_of_mem _ List.mem_cons_self)
    have hc : cnt ms (gv (x :: y :: t)) m = cnt ms (gv (y :: t)) m + (if m = x then 1 else 0) := by
      unfold cnt
      have h1 := sum_upd nd hy (fun z => (gv (y :: t) z).count m) ((gv (x :: y :: t) y).count m)
      have e : (ms.map fun z => if z = y then (gv (x :: y :: t) y).count m else (gv (y :: t) z).count m) = ms.map fun z => (gv (x :: y :: t) z).count m := List.map_congr_left fun z _ => by
        by_cases q : z = y
        · subst q; rw [if_pos rfl]
        · rw [if_neg q, gv_cons, if_neg q]; rfl
      rw [e] at h1
      have h2 : (gv (x :: y :: t) y).count m = (if m = x then 1 else 0) + (gv (y :: t) y).count m := by
        rw [gv_cons, if_pos rfl, List.count_append]
        by_cases q : m = x
        · subst q; simp
        · rw [if_neg q, List.count_cons_of_ne fun z => q z.symm]; rfl
      omega
    have hlen : (gv (x :: y :: t) m).length = (gv (y :: t) m).length + (if m = y then 1 else 0) := by
      rw [gv_cons]
      split <;> simp <;> omega
    omega
theorem rk_gv {ms h : List Str} {f : Str} {t : List Str} (e : h = f :: t) : Rk ms f (gv h) (fun m => h.idxOf m) := by
  subst e
  intro m _ hm g r hg
  right
  -- the first place of m stands behind its giver
  have go : ∀ (t : List Str) (x : Str), x ≠ m → ∀ g r, gv (x :: t) m = g :: r → (x :: t).idxOf g < (x :: t).idxOf m := by
    intro t
    induction t with
    | nil => intro x _ g r e; rw [gv_one] at e; cases e
    | cons y t ih =>
      intro x hx g r e
      have x1 : (x == m) = false := by simpa using hx
      rw [gv_cons] at e
      by_cases q : m = y
      · subst q
        rw [if_pos rfl] at e
        cases e
        rw [List.idxOf_cons, show (x == x) = true by simp, List.idxOf_cons (y := m), x1]
        exact Nat.succ_pos _
      · rw [if_neg q] at e
        have := ih y (fun z => q z.symm) g r e
        rw [List.idxOf_cons, List.idxOf_cons (y := m), x1]
        by_cases z : x = g
        · subst z
          rw [show (x == x) = true by simp]
          exact Nat.succ_pos _
        · have z1 : (x == g) = false := by simpa using z
          rw [z1]
          simp only [cond_false]
          omega
  exact go t f (fun z => hm z.symm) g r hg
theorem perm_sum {a b : List Nat} (h : a.Perm b) : a.sum = b.sum := by
  induction h with
  | nil => rfl
  | cons x _ ih => rw [List.sum_cons, List.sum_cons, ih]
  | swap x y l => rw [List.sum_cons, List.sum_cons, List.sum_cons, List.sum_cons]; omega
  | trans _ _ i1 i2 => exact i1.trans i2
theorem count_flat {α : Type} {m : Str} (k : α → List Str) : ∀ ls : List α, (ls.flatMap k).count m = (ls.map fun q => (k q).count m).sum
  | [] => rfl
  | q :: ls => by rw [List.flatMap_cons, List.count_append, List.map_cons, List.sum_cons, count_flat k ls]
theorem count_snoc {l : List Str} {g m : Str} : (l ++ [g]).count m = l.count m + (if m = g then 1 else 0) := by
  rw [List.count_append]
  by_cases q : m = g
  · subst q; simp
  · rw [if_neg q, List.count_cons_of_ne fun z => q z.symm]; rfl
theorem filter_one {ms : List Str} (nd : ms.Nodup) {l : Str} (h : l ∈ ms) : ms.filter (fun m => decide (m = l)) = [l] := by
  induction ms with
  | nil => cases h
  | cons a ms ih =>
    have ⟨h1, h2⟩ := List.nodup_cons.mp nd
    rw [List.filter_cons]
    by_cases e : a = l
    · subst e
      rw [if_pos (decide_eq_true rfl), List.filter_eq_nil_iff.mpr fun m hm z => h1 (by rw [← of_decide_eq_true z]; exact hm)]
    · rw [if_neg (by simpa using e), ih h2 ((List.mem_cons.mp h).resolve_left fun z => e z.symm)]
theorem last_sD {p : List Str} {y : Str} : PD.gSub (.lst (sD (p ++ [y]))) (.int (-1)) = some (.str y) := by
  show atI (sD (p ++ [y])) (-1) = _
  have hl : (sD (p ++ [y])).length = p.length + 1 := by rw [List.length_map, List.length_append, List.length_singleton]
  unfold atI ixN
  rw [if_neg (by omega), hl, if_pos (by omega)]
  have : ((-1 : Int) + ((p.length + 1 : Nat) : Int)).toNat = p.length := by omega
  rw [this]
  show (sD (p ++ [y]))[p.length]? = _
  rw [List.getElem?_map, List.getElem?_append_right (Nat.le_refl _), Nat.sub_self]
  rfl
theorem sD_snoc {xs : List Str} {y : Str} : sD (xs ++ [y]) = sD xs ++ [.str y] := by rw [sD, List.map_append]; rfl
end PD
namespace PD
open PySem PySem.Spec PyProof.Rows L2 GF
/-! ### more of the calculus: dicts -/
theorem gX_eq {d e z : D} (h : gEq d e = some z) : gEqX d e = some z := by unfold gEqX; rw [h]; rfl
theorem gX_ne {d e z : D} (h : gNe d e = some z) : gNeX d e = some z := by unfold gNeX; rw [h]; rfl
theorem gx_eqIX {i j : Int} : gEqX (.int i) (.int j) = some (.bl (decide (i = j))) := rfl
theorem gx_neIX {i j : Int} : gNeX (.int i) (.int j) = some (.bl !decide (i = j)) := rfl
theorem gx_eqSX {i j : Str} : gEqX (.str i) (.str j) = some (.bl (decide (i = j))) := rfl
theorem gx_neSX {i j : Str} : gNeX (.str i) (.str j) = some (.bl !decide (i = j)) := rfl
theorem gx_listW {ds : List D} : gListW [.lst ds] = some (.lst ds) := rfl
theorem listW_str {s : Str} (h : s.length ≤ sizeLine) : gListW [.str s] = some (.lst (s.cps.toList.map chr1)) := by
  show (if s.length ≤ sizeLine then some (D.lst (s.cps.toList.map chr1)) else none) = _
  rw [if_pos h]
theorem eqL {xs ys : List Str} (hx : ∀ x ∈ xs, PyData.strOk x = true) (hy : ∀ y ∈ ys, PyData.strOk y = true) : gEqX (.lst (sD xs)) (.lst (sD ys)) = some (.bl (decide (xs = ys))) := gX_eq (by unfold gEq; rw [eq_strs hx hy]; rfl)
theorem neL {xs ys : List Str} (hx : ∀ x ∈ xs, PyData.strOk x = true) (hy : ∀ y ∈ ys, PyData.strOk y = true) : gNeX (.lst (sD xs)) (.lst (sD ys)) = some (.bl !decide (xs = ys)) := gX_ne (by unfold gNe; rw [eq_strs hx hy]; rfl)
section
variable {c : DS} {a b cj : DE} {cs : DA} {e : Ev} {N : Ev → Prop} {R : D → Ev → Prop} {B C : Ev → Prop} {i : Nat} {f : LM} {Q : D → Ev → Prop}
theorem wp_none2 {α : Type} {Q : α → Ev → Prop} {e : Ev} {c : Ev → Option (Out α)} (h : c e = none) : Wp c e Q ↔ False := by
  constructor
  · rintro ⟨_, _, g, _⟩; rw [h] at g; cases g
  · exact False.elim
theorem wp_fun {α : Type} {Q : α → Ev → Prop} {e : Ev} {c c' : Ev → Option (Out α)} (h : c e = c' e) : Wp c e Q ↔ Wp c' e Q := by unfold Wp; rw [h]
theorem wp_dLmP : Wp (dLmP i cj f cs) e Q ↔ ∃ c0, e[i]? = some (some c0) ∧ Wp cj e fun j e0 => ∃ c, e0[i]? = some (some c) ∧ isDic c = isDic c0 ∧ (∃ ds, chD c j = some ds) ∧ Wp cs e0 fun as e1 => ∃ c1, e1[i]? = some (some c1) ∧ ∃ ds, chD c1 j = some ds ∧ ∃ res ds', f ds as = some (res, ds') ∧ ∃ c2, stD c1 j ds' = some c2 ∧ Q res (e1.set i (some c2)) := by
  constructor
  · rintro ⟨x, e9, h, q⟩
    unfold dLmP at h
    split at h
    · rename_i c0 h0
      refine ⟨c0, h0, (wp_bnd.mp ⟨x, e9, h, q⟩).mono fun j e0 ⟨x', e3, h', q'⟩ => ?_⟩
      dsimp only at h'
      split at h'
      · rename_i c hc
        split at h'
        · rename_i hd
          split at h'
          · rename_i ds hds
            refine ⟨c, hc, hd, ⟨ds, hds⟩, (wp_bnd.mp ⟨x', e3, h', q'⟩).mono fun as e1 ⟨x2, e4, h2, q2⟩ => ?_⟩
            dsimp only at h2
            split at h2
            · rename_i c1 hc1
              split at h2
              · rename_i ds1 hds1
                split at h2
                · rename_i res ds' hf
                  split at h2
                  · rename_i c2 hs
                    cases h2
                    exact ⟨c1, hc1, ds1, hds1, _, ds', hf, c2, hs, q2⟩
                  · cases h2
                · cases h2
              · cases h2
            · cases h2
          · cases h'
        · cases h'
      · cases h'
    · cases h
  · rintro ⟨c0, h0, j, e0, h1, c, hc, hd, ⟨ds, hds⟩, as, e1, h2, c1, hc1, ds1, hds1, res, ds', hf, c2, hs, q⟩
    refine ⟨res, _, ?_, q⟩
    unfold dLmP
    rw [h0]
    dsimp only
    unfold bnd
    rw [h1]
    dsimp only
    rw [hc]
    dsimp only
    rw [if_pos hd, hds]
    dsimp only
    rw [h2]
    dsimp only
    rw [hc1]
    dsimp only
    rw [hds1]
    dsimp only
    rw [hf]
    dsimp only
    rw [hs]
theorem ws_sSAug {g : D → D → Option D} : Ws (sSAug i g a b) e N R B C ↔ (∃ c, e[i]? = some (some c)) ∧ Wp a e fun j e1 => ∃ c, e1[i]? = some (some c) ∧ ∃ x, PD.gSub c j = some x ∧ (flatD x = true ∧ (isLs c = true ∨ isDic c = true)) ∧ Wp b e1 fun y e2 => ∃ z, g x y = some z ∧ ∃ c1, e2[i]? = some (some c1) ∧ ∃ c', stoD c1 j z = some c' ∧ N (e2.set i (some c')) := by
  unfold sSAug
  rw [ws_have, ws_bndS]
  refine and_congr Iff.rfl (iff_of_eq (congrArg _ (funext fun j => funext fun e1 => propext ⟨?_, ?_⟩)))
  · rintro ⟨o, h1, h2⟩
    dsimp only at h1
    split at h1
    · rename_i c hc
      split at h1
      · rename_i x hx
        split at h1
        · rename_i hf
          refine ⟨c, hc, x, hx, hf, (ws_bndS.mp ⟨o, h1, h2⟩).mono fun y e2 ⟨o2, g1, g2⟩ => ?_⟩
          dsimp only at g1
          split at g1
          · rename_i z hz
            split at g1
            · rename_i c1 hc1
              split at g1
              · rename_i c' hc'
                cases g1
                exact ⟨z, hz, c1, hc1, c', hc', g2⟩
              · cases g1
            · cases g1
          · cases g1
        · cases h1
      · cases h1
    · cases h1
  · rintro ⟨c, hc, x, hx, hf, y, e2, hy, z, hz, c1, hc1, c', hc', q⟩
    refine ⟨.nx (e2.set i (some c')), ?_, q⟩
    dsimp only
    rw [hc]
    dsimp only
    rw [hx]
    dsimp only
    rw [if_pos hf]
    unfold bndS
    rw [hy]
    dsimp only
    rw [hz]
    dsimp only
    rw [hc1]
    dsimp only
    rw [hc']
theorem ws_sSto2 : Ws (sSto2 i a b) e N R B C ↔ Wp a e fun d e1 => (∃ c, e1[i]? = some (some c)) ∧ Wp b e1 fun j e2 => ∃ ks, e2[i]? = some (some (.dct ks)) ∧ ∃ k, keyOf j = some k ∧ (ks.length < sizeLine ∧ (ks.any fun p => decide (p.1 = k)) = false) ∧ N (e2.set i (some (.dct (ks ++ [(k, d)])))) := by
  unfold sSto2
  rw [ws_bndS]
  refine iff_of_eq (congrArg _ (funext fun d => funext fun e1 => ?_))
  rw [ws_have, ws_bndS]
  refine congrArg _ (congrArg _ (funext fun j => funext fun e2 => propext ⟨?_, ?_⟩))
  · rintro ⟨o, h1, h2⟩
    dsimp only at h1
    split at h1
    · rename_i ks hks
      split at h1
      · rename_i k hk
        split at h1
        · rename_i hc
          cases h1
          exact ⟨ks, hks, k, hk, hc, h2⟩
        · cases h1
      · cases h1
    · cases h1
  · rintro ⟨ks, hks, k, hk, hc, q⟩
    refine ⟨.nx (e2.set i (some (.dct (ks ++ [(k, d)])))), ?_, q⟩
    dsimp only
    rw [hks]
    dsimp only
    rw [hk]
    dsimp only
    rw [if_pos hc]
end
/-- a dict comprehension that changes nothing else -/
theorem compD_of {m : Nat} {t : Tg} {tt : DB} {tk te : DE} {vs : List Nat} {e0 : Ev} (p : D → Bool) (k : D → Key) (v : D → D) : ∀ {ds : List D} {acc : List (Key × D)} {e : Ev}, wipeE vs e = e0 →
    (∀ d ∈ ds, ∃ e2, asgT t d e0 = some e2 ∧ Wp tt e2 fun b e3 => b = p d ∧ if b = true then Wp tk e3 fun kd e4 => keyOf kd = some (k d) ∧ Wp te e4 fun y e5 => y = v d ∧ wipeE vs e5 = e0 else wipeE vs e3 = e0) →
    (acc.map (·.1) ++ (ds.filter p).map k).Nodup → compD m t tt tk te vs ds acc e = some (.ok (acc ++ (ds.filter p).map fun d => (k d, v d)) e0)
  | [], acc, e, he, _, _ => by
    show some (Out.ok acc (wipeE vs e)) = _
    rw [he]; simp
  | d :: ds, acc, e, he, hs, hn => by
    obtain ⟨e2, h1, b, e3, h2, h3, h4⟩ := hs d List.mem_cons_self
    unfold compD
    rw [he, h1]
    dsimp only
    rw [h2]
    subst h3
    cases hp : p d with
    | false =>
      dsimp only
      rw [hp, if_neg Bool.false_ne_true] at h4
      rw [List.filter_cons, hp] at hn
      rw [compD_of p k v h4 (fun x hx => hs x (List.mem_cons_of_mem _ hx)) (by simpa using hn), List.filter_cons, hp]
      simp
    | true =>
      rw [hp, if_pos rfl] at h4
      obtain ⟨kd, e4, g1, g2, y, e5, g3, g4, g5⟩ := h4
      subst g4
      rw [List.filter_cons, hp, if_pos rfl, List.map_cons] at hn
      have hnk : k d ∉ acc.map (·.1) := by
        rw [List.nodup_append] at hn
        exact fun z => hn.2.2 (k d) z (k d) List.mem_cons_self rfl
      dsimp only
      rw [g1]
      dsimp only
      rw [g3]
      dsimp only
      rw [g2]
      dsimp only
      have ha : (acc.any fun q => decide (q.1 = k d)) = false := by
        rw [Bool.eq_false_iff]
        intro z
        obtain ⟨q, hq, eq⟩ := List.any_eq_true.mp z
        exact hnk (List.mem_map.mpr ⟨q, hq, of_decide_eq_true eq⟩)
      rw [if_neg (fun z => by rw [ha] at z; exact absurd z.2 (by simp)), putD_new hnk, compD_of p k v g5 (fun x hx => hs x (List.mem_cons_of_mem _ hx)) (by rw [List.map_append, List.append_assoc]; exact hn), List.filter_cons, hp, if_pos rfl, List.map_cons, List.append_assoc]
      rfl
theorem wp_dDcM {m : Nat} {it : DA} {t : Tg} {tt : DB} {tk te : DE} {vs : List Nat} {e : Ev} {Q : D → Ev → Prop} (p : D → Bool) (k : D → Key) (v : D → D) (ds : List D) (e1 : Ev) (hi : Wp it e fun d e' => d = ds ∧ e' = e1) (hl : ds.length ≤ sizeLine)
    (hs : ∀ d ∈ ds, ∃ e2, asgT t d (wipeE vs e1) = some e2 ∧ Wp tt e2 fun b e3 => b = p d ∧ if b = true then Wp tk e3 fun kd e4 => keyOf kd = some (k d) ∧ Wp te e4 fun y e5 => y = v d ∧ wipeE vs e5 = wipeE vs e1 else wipeE vs e3 = wipeE vs e1) (hn : ((ds.filter p).map k).Nodup)
    (hq : Q (.dct ((ds.filter p).map fun d => (k d, v d))) (wipeE vs e1)) : Wp (dDc m it t tt tk te vs) e Q := by
  unfold dDc
  refine wp_bnd.mpr (hi.mono fun d e' ⟨h1, h2⟩ => ?_)
  subst h1; subst h2
  refine ⟨_, _, ?_, hq⟩
  dsimp only
  rw [if_pos hl, compD_of p k v rfl hs (by simpa using hn)]
  rfl
/-! dicts over members -/
abbrev mD {α : Type} (ms : List α) (k : α → Str) (v : α → D) : D := .dct (ms.map fun m => (.inr (k m), v m))
theorem valD_g {α : Type} {ks : List (Str × α)} {v : α → D} (k : Str) : valD (ks.map fun q => ((.inr q.1 : Key), v q.2)) (.inr k) = (ks.lookup k).map v := by
  unfold valD
  induction ks with
  | nil => rfl
  | cons q ks ih =>
    obtain ⟨a, b⟩ := q
    rw [List.map_cons, List.find?_cons, List.lookup_cons]
    by_cases h : a = k
    · subst h; simp
    · have h2 : ¬ k = a := fun z => h z.symm
      have h3 : (k == a) = false := by simpa using h2
      simp only [h3]
      simp only [show decide ((Sum.inr a : Key) = Sum.inr k) = false by simp [h]]
      exact ih
theorem valD_m {ms : List Str} {v : Str → D} {k : Str} (h : k ∈ ms) : valD (ms.map fun m => ((.inr m : Key), v m)) (.inr k) = some (v k) := by
  unfold valD
  induction ms with
  | nil => cases h
  | cons a ms ih =>
    rw [List.map_cons, List.find?_cons]
    by_cases e : a = k
    · subst e; simp
    · simp only [show decide ((Sum.inr a : Key) = Sum.inr k) = false by simp [e]]
      exact ih ((List.mem_cons.mp h).resolve_left fun z => e z.symm)
theorem subM {ms : List Str} {v : Str → D} {k : Str} (h : k ∈ ms) : PD.gSub (.dct (ms.map fun m => ((.inr m : Key), v m))) (.str k) = some (v k) := valD_m h
theorem putM {ms : List Str} {v : Str → D} {k : Str} {w : D} (h : k ∈ ms) : putD (ms.map fun m => ((.inr m : Key), v m)) (.inr k) w = ms.map fun m => (.inr m, if m = k then w else v m) := by
  unfold putD
  rw [if_pos (List.any_eq_true.mpr ⟨(.inr k, v k), List.mem_map.mpr ⟨k, h, rfl⟩, decide_eq_true rfl⟩), List.map_map]
  refine List.map_congr_left fun m _ => ?_
  by_cases e : m = k
  · subst e; simp
  · simp [e]
theorem stoM {ms : List Str} {v : Str → D} {k : Str} {w : D} (h : k ∈ ms) (hl : ms.length < sizeLine) : stoD (.dct (ms.map fun m => ((.inr m : Key), v m))) (.str k) w = some (.dct (ms.map fun m => (.inr m, if m = k then w else v m))) := by
  have e : (ms.map fun m => ((.inr m : Key), v m)).length = ms.length := List.length_map ..
  show (if (ms.map fun m => ((.inr m : Key), v m)).length < sizeLine then some (D.dct (putD (ms.map fun m => ((.inr m : Key), v m)) (.inr k) w)) else none) = _
  rw [e, if_pos hl, putM h]
theorem updM {ms : List Str} (nd : ms.Nodup) {v : Str → D} {k : Str} {w : D} : updK (ms.map fun m => ((.inr m : Key), v m)) (.inr k) w = ms.map fun m => (.inr m, if m = k then w else v m) := by
  induction ms with
  | nil => rfl
  | cons a ms ih =>
    have ⟨h1, h2⟩ := List.nodup_cons.mp nd
    show (if (Sum.inr a : Key) = Sum.inr k then _ else _) = _
    by_cases e : a = k
    · subst e
      rw [if_pos rfl, List.map_cons, if_pos rfl]
      exact congrArg _ (List.map_congr_left fun m hm => by rw [if_neg fun z => h1 (by rw [← z]; exact hm)])
    · rw [if_neg (by simp [e]), ih h2, List.map_cons, if_neg e]
theorem wp_nilP {e : Ev} {Q : List (Key × D) → Ev → Prop} : Wp nilP e Q ↔ Q [] e := by
  unfold nilP; simp [wp_lf]
theorem wp_consP {e : Ev} {a b : DE} {r : DP} {Q : List (Key × D) → Ev → Prop} : Wp (consP a b r) e Q ↔ Wp a e fun x e1 => ∃ k, keyOf x = some k ∧ Wp b e1 fun y e2 => Wp r e2 fun l e3 => Q ((k, y) :: l) e3 := by
  unfold consP
  rw [wp_bnd]
  refine iff_of_eq (congrArg _ (funext fun x => funext fun e1 => ?_))
  cases h : keyOf x with
  | none => simp [wp_none]
  | some k => simp [wp_bnd, wp_lf]
theorem wp_dDisp0 {e : Ev} {c : DP} {Q : D → Ev → Prop} : Wp (dDisp 0 c) e Q ↔ Wp c e fun l e1 => l.length ≤ 15 ∧ Q (.dct (mergeD [] l)) e1 := by
  unfold dDisp
  rw [wp_bnd]
  refine iff_of_eq (congrArg _ (funext fun l => funext fun e1 => ?_))
  rw [wp_lf]
  by_cases h : l.length ≤ 15 <;> simp [h]
end PD
namespace PD
open PySem PySem.Spec PyProof.Rows L2 GF
/-! ### rings of first entries, and the balance, plainly -/
def itn (s : Str → Option Str) : Nat → Str → Option Str
  | 0, x => some x
  | k + 1, x => (itn s k x).bind s
theorem itn_add {s : Str → Option Str} {a x} : ∀ {b : Nat}, itn s (a + b) x = (itn s a x).bind (itn s b)
  | 0 => by
    show itn s a x = (itn s a x).bind (itn s 0)
    cases itn s a x <;> rfl
  | b + 1 => by
    show (itn s (a + b) x).bind s = (itn s a x).bind fun y => (itn s b y).bind s
    rw [itn_add]
    cases itn s a x <;> rfl
theorem itn_some {s : Str → Option Str} {x z : Str} {k n : Nat} (h : itn s n x = some z) (hk : k ≤ n) : ∃ y, itn s k x = some y := by
  obtain ⟨m, rfl⟩ := Nat.exists_eq_add_of_le hk
  rw [itn_add] at h
  cases e : itn s k x with
  | none => rw [e] at h; cases h
  | some y => exact ⟨y, rfl⟩
/-- from a member to its first entry -/
def stp (S : List Str) (L : Str → List Str) (y : Str) : Option Str := if y ∈ S then some ((L y).headD "") else none
theorem stp_in {S : List Str} {L : Str → List Str} {y z : Str} (h : stp S L y = some z) : y ∈ S ∧ z = (L y).headD "" := by
  unfold stp at h
  split at h
  · cases h; exact ⟨by assumption, rfl⟩
  · cases h
/-- no ring goes through x -/
def NoX (S : List Str) (L : Str → List Str) (x : Str) : Prop := ∀ k, 1 ≤ k → k ≤ S.length → itn (stp S L) k x ≠ some x
def NoR (S : List Str) (L : Str → List Str) : Prop := ∀ x ∈ S, NoX S L x
theorem noR_end {S : List Str} {L : Str → List Str} (h : NoR S L) (y : Str) : itn (stp S L) (S.length + 1) y = none := by
  cases e : itn (stp S L) (S.length + 1) y with
  | none => rfl
  | some z =>
    exfalso
    have hin : ∀ k, k ≤ S.length → ∃ w ∈ S, itn (stp S L) k y = some w := fun k hk => by
      obtain ⟨v, hv⟩ := itn_some e (show k + 1 ≤ S.length + 1 by omega)
      have hv2 : (itn (stp S L) k y).bind (stp S L) = some v := hv
      cases e2 : itn (stp S L) k y with
      | none => rw [e2] at hv2; cases hv2
      | some w =>
        rw [e2] at hv2
        exact ⟨w, (stp_in hv2).1, rfl⟩
    have nd : ((List.range (S.length + 1)).map fun k => (itn (stp S L) k y).getD "").Nodup := by
      refine List.pairwise_map.mpr ?_
      refine (List.pairwise_lt_range (n := S.length + 1)).imp_of_mem fun {i j} hi hj hij => ?_
      have hi := List.mem_range.mp hi
      have hj := List.mem_range.mp hj
      obtain ⟨w, hw, ew⟩ := hin i (by omega)
      obtain ⟨v, _, ev⟩ := hin j (by omega)
      rw [ew, ev]
      show w ≠ v
      intro q
      subst q
      refine h w hw (j - i) (by omega) (by omega) ?_
      have : itn (stp S L) (i + (j - i)) y = some w := by rw [show i + (j - i) = j by omega]; exact ev
      rw [itn_add, ew] at this
      exact this
    have := nd_sub_le nd (b := S) fun x hx => by
      obtain ⟨k, hk, rfl⟩ := List.mem_map.mp hx
      obtain ⟨w, hw, ew⟩ := hin k (by have := List.mem_range.mp hk; omega)
      rw [ew]; exact hw
    rw [List.length_map, List.length_range] at this
    omega
theorem range_cnt {p : Nat → Bool} {n : Nat} : (List.range (n + 1)).countP p = (if p 0 = true then 1 else 0) + (List.range n).countP fun k => p (k + 1) := by
  rw [List.range_succ_eq_map, List.countP_cons, List.countP_map]
  have : (p ∘ Nat.succ) = fun k => p (k + 1) := rfl
  rw [this]; omega
theorem noR_rank {S : List Str} {L : Str → List Str} (h : NoR S L) : ∃ ρ : Str → Nat, ∀ y ∈ S, ρ ((L y).headD "") < ρ y := by
  refine ⟨fun y => (List.range (S.length + 1)).countP fun k => (itn (stp S L) k y).isSome, fun y hy => ?_⟩
  have e1 : ∀ k, itn (stp S L) (k + 1) y = itn (stp S L) k ((L y).headD "") := fun k => by
    rw [Nat.add_comm, itn_add]
    show ((some y).bind (stp S L)).bind _ = _
    show (stp S L y).bind _ = _
    unfold stp
    rw [if_pos hy]; rfl
  have e2 : itn (stp S L) S.length ((L y).headD "") = none := by rw [← e1]; exact noR_end h y
  show (List.range (S.length + 1)).countP (fun k => (itn (stp S L) k ((L y).headD "")).isSome) < (List.range (S.length + 1)).countP fun k => (itn (stp S L) k y).isSome
  rw [range_cnt (p := fun k => (itn (stp S L) k y).isSome), List.range_succ, List.countP_append]
  have e3 : (fun k => (itn (stp S L) (k + 1) y).isSome) = fun k => (itn (stp S L) k ((L y).headD "")).isSome := by funext k; rw [e1]
  rw [e3, List.countP_cons, e2]
  show _ + (0 + 0) < 1 + _
  omega
theorem rank_noR {S : List Str} {L : Str → List Str} {f : Str} {ρ : Str → Nat} (h : ∀ y ∈ S, y ≠ f ∧ ((L y).headD "" = f ∨ ρ ((L y).headD "") < ρ y)) : NoR S L := by
  have go : ∀ k x y, itn (stp S L) (k + 1) x = some y → y = f ∨ ρ y < ρ x := by
    intro k
    induction k with
    | zero =>
      intro x y e
      obtain ⟨h1, rfl⟩ := stp_in (show stp S L x = some y from e)
      exact (h x h1).2
    | succ k ih =>
      intro x y e
      have e : (itn (stp S L) (k + 1) x).bind (stp S L) = some y := e
      cases e2 : itn (stp S L) (k + 1) x with
      | none => rw [e2] at e; cases e
      | some w =>
        rw [e2] at e
        obtain ⟨h1, rfl⟩ := stp_in (show stp S L w = some y from e)
        have ⟨h2, h3⟩ := h w h1
        rcases ih x w e2 with z | z
        · exact absurd z h2
        · rcases h3 with q | q
          · exact .inl q
          · exact .inr (by omega)
  intro x hx k hk _ e
  obtain ⟨k, rfl⟩ : ∃ j, k = j + 1 := ⟨k - 1, by omega⟩
  rcases go k x x e with z | z
  · exact (h x hx).1 z
  · omega
/-! the sum of the surpluses -/
theorem cnt_one {ms : List Str} (nd : ms.Nodup) {g : Str} (hg : g ∈ ms) : (ms.map fun m => if m = g then 1 else 0).sum = 1 := by
  have := sum_upd nd hg (fun _ => 0) 1
  have z : (ms.map fun _ : Str => 0).sum = 0 := by
    clear nd hg this
    induction ms with
    | nil => rfl
    | cons a ms ih => rw [List.map_cons, List.sum_cons, ih]
  rw [z] at this
  omega
theorem sum_add {ms : List Str} (F H : Str → Nat) : (ms.map fun m => F m + H m).sum = (ms.map F).sum + (ms.map H).sum := by
  induction ms with
  | nil => rfl
  | cons a ms ih => simp only [List.map_cons, List.sum_cons, ih]; omega
theorem sum_count {ms : List Str} (nd : ms.Nodup) : ∀ {l : List Str}, (∀ g ∈ l, g ∈ ms) → (ms.map fun m => l.count m).sum = l.length
  | [], _ => by
    induction ms with
    | nil => rfl
    | cons a ms ih => rw [List.map_cons, List.sum_cons, ih (List.nodup_cons.mp nd).2 fun _ z => by cases z]; rfl
  | g :: l, h => by
    have e : (ms.map fun m => (g :: l).count m) = ms.map fun m => l.count m + (if m = g then 1 else 0) := List.map_congr_left fun m _ => by
      by_cases q : m = g
      · subst q; simp
      · rw [if_neg q, List.count_cons_of_ne fun z => q z.symm]; rfl
    rw [e, sum_add, sum_count nd fun x hx => h x (List.mem_cons_of_mem _ hx), cnt_one nd (h g List.mem_cons_self)]; rfl
theorem sum_swap {ms : List Str} (F : Str → Str → Nat) : ∀ ys : List Str, (ms.map fun m => (ys.map fun y => F y m).sum).sum = (ys.map fun y => (ms.map fun m => F y m).sum).sum
  | [] => by
    show (ms.map fun _ => 0).sum = 0
    induction ms with
    | nil => rfl
    | cons a ms ih => rw [List.map_cons, List.sum_cons, ih]; rfl
  | y :: ys => by
    simp only [List.map_cons, List.sum_cons]
    rw [sum_add, sum_swap F ys]
theorem cnt_sum {ms : List Str} (nd : ms.Nodup) {L : Str → List Str} (h : ∀ m ∈ ms, ∀ g ∈ L m, g ∈ ms) : (ms.map fun m => cnt ms L m).sum = (ms.map fun m => (L m).length).sum := by
  unfold cnt
  rw [sum_swap (F := fun y m => (L y).count m)]
  exact congrArg _ (List.map_congr_left fun y hy => sum_count nd (h y hy))
/-- the surplus -/
def spl (ms : List Str) (f : Str) (L : Str → List Str) (m : Str) : Int := (((L m).length : Nat) : Int) + (if m = f then 1 else 0) - (cnt ms L m : Nat)
theorem spl_sum {ms : List Str} (nd : ms.Nodup) {f : Str} (hf : f ∈ ms) {L : Str → List Str} (h : ∀ m ∈ ms, ∀ g ∈ L m, g ∈ ms) : (ms.map (spl ms f L)).sum = 1 := by
  have h1 := cnt_sum nd h
  have h2 := cnt_one nd hf
  have go : ∀ ks : List Str, (ks.map (spl ms f L)).sum = (((ks.map fun m => (L m).length).sum : Nat) : Int) + ((ks.map fun m => if m = f then 1 else 0).sum : Nat) - ((ks.map fun m => cnt ms L m).sum : Nat) := by
    intro ks
    induction ks with
    | nil => rfl
    | cons a ks ih =>
      simp only [List.map_cons, List.sum_cons]
      rw [ih]
      unfold spl
      split <;> omega
  rw [go]
  omega
theorem sum_01 {ms : List Str} {s : Str → Int} (h : ∀ m ∈ ms, s m = 0 ∨ s m = 1) : (ms.map s).sum = ((ms.filter fun m => decide (s m = 1)).length : Nat) := by
  induction ms with
  | nil => rfl
  | cons a ms ih =>
    rw [List.map_cons, List.sum_cons, ih fun m hm => h m (List.mem_cons_of_mem _ hm), List.filter_cons]
    rcases h a List.mem_cons_self with e | e
    · rw [if_neg (by simp [e]), e]; omega
    · rw [if_pos (by simp [e]), e, List.length_cons]; omega
theorem spl_bal {ms : List Str} {f l : Str} {L : Str → List Str} : Bal ms f l L ↔ ∀ m ∈ ms, spl ms f L m = if m = l then 1 else 0 := by
  refine ⟨fun h m hm => ?_, fun h m hm => ?_⟩
  · have := h m hm
    unfold spl
    split at this <;> split at this <;> simp_all <;> omega
  · have := h m hm
    unfold spl at this
    split at this <;> split at this <;> simp_all <;> omega
theorem bal_of {ms : List Str} (nd : ms.Nodup) {f : Str} (hf : f ∈ ms) {L : Str → List Str} (h : ∀ m ∈ ms, ∀ g ∈ L m, g ∈ ms) (h01 : ∀ m ∈ ms, spl ms f L m = 0 ∨ spl ms f L m = 1) : ∃ l ∈ ms, Bal ms f l L := by
  have e := (sum_01 h01).symm.trans (spl_sum nd hf h)
  have hm : ∀ m, m ∈ ms.filter (fun m => decide (spl ms f L m = 1)) ↔ m ∈ ms ∧ spl ms f L m = 1 := fun m => by rw [List.mem_filter, decide_eq_true_eq]
  match hq : ms.filter fun m => decide (spl ms f L m = 1), e with
  | [l], _ =>
    rw [hq] at hm
    refine ⟨l, ((hm l).mp List.mem_cons_self).1, spl_bal.mpr fun m h1 => ?_⟩
    by_cases c : m = l
    · rw [if_pos c, c]; exact ((hm l).mp List.mem_cons_self).2
    · rw [if_neg c]
      rcases h01 m h1 with z | z
      · exact z
      · exact absurd (List.mem_singleton.mp ((hm m).mpr ⟨h1, z⟩)) c
  | [], e => simp at e
  | _ :: _ :: _, e => simp only [List.length_cons] at e; omega
theorem bal_01 {ms : List Str} {f l : Str} {L : Str → List Str} (h : Bal ms f l L) {m : Str} (hm : m ∈ ms) : spl ms f L m = 0 ∨ spl ms f L m = 1 := by
  rw [spl_bal.mp h m hm]
  split
  · exact .inr rfl
  · exact .inl rfl
theorem bal_one {ms : List Str} {f l l' : Str} {L : Str → List Str} (h : Bal ms f l L) (h' : Bal ms f l' L) (hl : l ∈ ms) : l = l' := by
  have a := spl_bal.mp h l hl
  have b := spl_bal.mp h' l hl
  rw [if_pos rfl] at a
  rw [a] at b
  by_cases c : l = l'
  · exact c
  · rw [if_neg c] at b; omega
/-- lists that come from a history -/
def Cons (ms : List Str) (f : Str) (L : Str → List Str) : Prop := (∃ l ∈ ms, Bal ms f l L) ∧ ∃ ρ, Rk ms f L ρ
end PD
namespace PD
open PySem PySem.Spec PyProof.Rows L2 GF
/-! ### first times (plain) -/
def ftS (acc : List Str) (x : Str) : List Str := if x ∈ acc then acc else acc ++ [x]
def ft (h : List Str) : List Str := h.foldl ftS []
theorem ft_snoc {a : List Str} {x : Str} : ft (a ++ [x]) = if x ∈ ft a then ft a else ft a ++ [x] := by
  unfold ft
  rw [List.foldl_append]
  rfl
theorem ftA_mem {x : Str} : ∀ {h acc : List Str}, x ∈ h.foldl ftS acc ↔ x ∈ acc ∨ x ∈ h
  | [], acc => by simp
  | y :: h, acc => by
    rw [List.foldl_cons, ftA_mem]
    unfold ftS
    split
    · rename_i hy
      constructor
      · rintro (z | z)
        · exact .inl z
        · exact .inr (List.mem_cons_of_mem _ z)
      · rintro (z | z)
        · exact .inl z
        · rcases List.mem_cons.mp z with rfl | z
          · exact .inl hy
          · exact .inr z
    · simp [or_assoc]
theorem ft_mem {x : Str} {h : List Str} : x ∈ ft h ↔ x ∈ h := by
  unfold ft
  rw [ftA_mem]
  simp
theorem ftA_nd : ∀ {h acc : List Str}, acc.Nodup → (h.foldl ftS acc).Nodup
  | [], _, n => n
  | y :: h, acc, n => by
    rw [List.foldl_cons]
    refine ftA_nd ?_
    unfold ftS
    split
    · exact n
    · rename_i hy
      exact List.nodup_append.mpr ⟨n, List.pairwise_singleton _ _, fun a ha b hb e => hy (by rw [← List.mem_singleton.mp hb, ← e]; exact ha)⟩
theorem ft_nd {h : List Str} : (ft h).Nodup := ftA_nd List.nodup_nil
theorem ftA_pre : ∀ {h acc : List Str}, ∃ r, h.foldl ftS acc = acc ++ r
  | [], acc => ⟨[], (List.append_nil _).symm⟩
  | y :: h, acc => by
    rw [List.foldl_cons]
    obtain ⟨r, e⟩ := ftA_pre (h := h) (acc := ftS acc y)
    rw [e]
    unfold ftS
    split
    · exact ⟨r, rfl⟩
    · exact ⟨y :: r, by rw [List.append_assoc]; rfl⟩
theorem ft_app {a b : List Str} : ∃ r, ft (a ++ b) = ft a ++ r := by
  unfold ft
  rw [List.foldl_append]
  exact ftA_pre
theorem ft_take {h : List Str} {k : Nat} : ∃ r, ft h = ft (h.take k) ++ r := by
  have := ft_app (a := h.take k) (b := h.drop k)
  rwa [List.take_append_drop] at this
theorem ft_cons {f : Str} {t : List Str} : ∃ r, ft (f :: t) = f :: r := by
  obtain ⟨r, e⟩ := ft_app (a := [f]) (b := t)
  exact ⟨r, e⟩
theorem ft_len {h : List Str} : (ft h).length ≤ h.length := by
  have key : ∀ {h acc : List Str}, (h.foldl ftS acc).length ≤ acc.length + h.length := by
    intro h
    induction h with
    | nil => intro acc; exact Nat.le_refl _
    | cons y h ih =>
      intro acc
      rw [List.foldl_cons, List.length_cons]
      have := ih (acc := ftS acc y)
      have h2 : (ftS acc y).length ≤ acc.length + 1 := by
        unfold ftS
        split
        · omega
        · rw [List.length_append, List.length_singleton]; omega
      omega
  have := key (h := h) (acc := [])
  unfold ft
  simpa using this
theorem ft_order {h : List Str} {a b : Str} (l : h.idxOf a < h.idxOf b) : (ft h).idxOf a < (ft h).idxOf b := by
  have ha : a ∈ h := by
    refine Classical.byContradiction fun z => ?_
    have := List.idxOf_eq_length z
    have := List.idxOf_le_length (a := b) (l := h)
    omega
  obtain ⟨r, e⟩ := ft_take (h := h) (k := h.idxOf b)
  have h1 : a ∈ ft (h.take (h.idxOf b)) := ft_mem.mpr (idx_take l ha)
  have h2 : b ∉ ft (h.take (h.idxOf b)) := fun z => absurd (idx_of_take (ft_mem.mp z)) (Nat.lt_irrefl _)
  rw [e, List.idxOf_append, if_pos h1, List.idxOf_append, if_neg h2]
  have := List.idxOf_lt_length_of_mem h1
  omega
theorem ftA_map {σ : Str → Str} : ∀ {h acc : List Str}, (∀ x ∈ acc ++ h, ∀ y ∈ acc ++ h, σ x = σ y → x = y) → (h.map σ).foldl ftS (acc.map σ) = (h.foldl ftS acc).map σ
  | [], _, _ => rfl
  | z :: h, acc, inj => by
    rw [List.map_cons, List.foldl_cons, List.foldl_cons]
    have e : ftS (acc.map σ) (σ z) = (ftS acc z).map σ := by
      unfold ftS
      by_cases q : z ∈ acc
      · rw [if_pos q, if_pos (List.mem_map.mpr ⟨z, q, rfl⟩)]
      · rw [if_neg q, if_neg, List.map_append]; rfl
        intro w
        obtain ⟨y, hy, e⟩ := List.mem_map.mp w
        have := inj y (List.mem_append_left _ hy) z (List.mem_append_right _ List.mem_cons_self) e
        rw [this] at hy
        exact q hy
    rw [e]
    refine ftA_map fun x hx y hy => inj x ?_ y ?_
    · rcases List.mem_append.mp hx with hx | hx
      · unfold ftS at hx
        split at hx
        · exact List.mem_append_left _ hx
        · rcases List.mem_append.mp hx with hx | hx
          · exact List.mem_append_left _ hx
          · rw [List.mem_singleton.mp hx]; exact List.mem_append_right _ List.mem_cons_self
      · exact List.mem_append_right _ (List.mem_cons_of_mem _ hx)
    · rcases List.mem_append.mp hy with hx | hx
      · unfold ftS at hx
        split at hx
        · exact List.mem_append_left _ hx
        · rcases List.mem_append.mp hx with hx | hx
          · exact List.mem_append_left _ hx
          · rw [List.mem_singleton.mp hx]; exact List.mem_append_right _ List.mem_cons_self
      · exact List.mem_append_right _ (List.mem_cons_of_mem _ hx)
theorem ft_map {σ : Str → Str} {h : List Str} (inj : ∀ x ∈ h, ∀ y ∈ h, σ x = σ y → x = y) : ft (h.map σ) = (ft h).map σ := ftA_map (acc := []) inj
/-- who has had the document but as the first holder has a giver -/
theorem gv_hasT {x : Str} : ∀ {t : List Str} {f : Str}, x ∈ t → gv (f :: t) x ≠ []
  | [], _, h => by cases h
  | y :: t, f, h => by
    rw [gv_cons]
    by_cases e : x = y
    · rw [if_pos e]; simp
    · rw [if_neg e, List.nil_append]
      exact gv_hasT ((List.mem_cons.mp h).resolve_left e)
theorem gv_has {f x : Str} {t : List Str} (hx : x ∈ f :: t) (n : x ≠ f) : gv (f :: t) x ≠ [] := gv_hasT ((List.mem_cons.mp hx).resolve_left n)
theorem gv_in {h : List Str} {x : Str} (n : gv h x ≠ []) : x ∈ h := by
  obtain ⟨g, hg⟩ := List.exists_mem_of_ne_nil _ n
  exact (gv_mem hg).2
theorem hs_map {σ : Str → Str} {h : List Str} (inj : ∀ x ∈ h, ∀ y ∈ h, σ x = σ y → x = y) (hs : Hs h) : Hs (h.map σ) := by
  intro q hq e
  have ht : (h.map σ).tail = h.tail.map σ := by cases h <;> rfl
  rw [ht, List.zip_map] at hq
  obtain ⟨⟨a, b⟩, hp, rfl⟩ := List.mem_map.mp hq
  have m := List.of_mem_zip hp
  exact hs _ hp (inj a m.1 b (List.mem_of_mem_tail m.2) e)
end PD
namespace K06
open PySem PySem.Spec PyProof.Rows L2 GF PD
/-! ### the text by places (printed) -/
def topS (i : Nat) : Stmt := PySem.Challenge.pw_gotfrom_k06_whole_large_histories.main.body.getD i (.Pass ⟨0, 0, 0, 0⟩)
abbrev s_is_name : Stmt := topS 9
theorem sc_is_name : FnScope ["value", "letter"] ["value"] (defScope s_is_name) := ⟨rfl, rfl, rfl, by decide +kernel, rfl, by decide +kernel, by decide +kernel⟩
abbrev s_is_members : Stmt := topS 10
theorem sc_is_members : FnScope ["value", "member", "one", "other"] ["value"] (defScope s_is_members) := ⟨rfl, rfl, rfl, by decide +kernel, rfl, by decide +kernel, by decide +kernel⟩
abbrev s_need_members : Stmt := topS 11
theorem sc_need_members : FnScope ["members"] ["members"] (defScope s_need_members) := ⟨rfl, rfl, rfl, by decide +kernel, rfl, by decide +kernel, by decide +kernel⟩
abbrev s_is_member : Stmt := topS 12
theorem sc_is_member : FnScope ["members", "value"] ["members", "value"] (defScope s_is_member) := ⟨rfl, rfl, rfl, by decide +kernel, rfl, by decide +kernel, by decide +kernel⟩
abbrev s_need_member : Stmt := topS 13
theorem sc_need_member : FnScope ["members", "value"] ["members", "value"] (defScope s_need_member) := ⟨rfl, rfl, rfl, by decide +kernel, rfl, by decide +kernel, by decide +kernel⟩
abbrev s_is_history : Stmt := topS 14
theorem sc_is_history : FnScope ["members", "value", "one", "other"] ["members", "value"] (defScope s_is_history) := ⟨rfl, rfl, rfl, by decide +kernel, rfl, by decide +kernel, by decide +kernel⟩
abbrev s_need_history : Stmt := topS 15
theorem sc_need_history : FnScope ["members", "history"] ["members", "history"] (defScope s_need_history) := ⟨rfl, rfl, rfl, by decide +kernel, rfl, by decide +kernel, by decide +kernel⟩
abbrev s_lists_of : Stmt := topS 16
theorem sc_lists_of : FnScope ["members", "history", "found", "giver", "receiver", "member"] ["members", "history"] (defScope s_lists_of) := ⟨rfl, rfl, rfl, by decide +kernel, rfl, by decide +kernel, by decide +kernel⟩
abbrev s_handovers_of : Stmt := topS 17
theorem sc_handovers_of : FnScope ["members", "history", "found", "pair"] ["members", "history"] (defScope s_handovers_of) := ⟨rfl, rfl, rfl, by decide +kernel, rfl, by decide +kernel, by decide +kernel⟩
abbrev s_turns_of : Stmt := topS 18
theorem sc_turns_of : FnScope ["members", "history", "member", "index", "holder"] ["members", "history", "member"] (defScope s_turns_of) := ⟨rfl, rfl, rfl, by decide +kernel, rfl, by decide +kernel, by decide +kernel⟩
abbrev s_l_stock : Stmt := topS 20
theorem sc_l_stock : FnScope ["_law_script", "_law_k", "_law_cell"] ["_law_script", "_law_k"] (defScope s_l_stock) := ⟨rfl, rfl, rfl, by decide +kernel, rfl, by decide +kernel, by decide +kernel⟩
abbrev s_l_dig : Stmt := topS 21
theorem sc_l_dig : FnScope ["_law_stock_here", "_law_size", "_law_found", "_law_mixed"] ["_law_stock_here", "_law_size"] (defScope s_l_dig) := ⟨rfl, rfl, rfl, by decide +kernel, rfl, by decide +kernel, by decide +kernel⟩
abbrev s_l_history : Stmt := topS 22
theorem sc_l_history : FnScope ["_law_stock_here", "_law_members", "_law_most", "_law_found", "_law_style", "_law_turn", "_law_others", "_law_after", "_law_chosen", "_law_member"] ["_law_stock_here", "_law_members", "_law_most"] (defScope s_l_history) := ⟨rfl, rfl, rfl, by decide +kernel, rfl, by decide +kernel, by decide +kernel⟩
abbrev s_law : Stmt := topS 23
theorem sc_law : FnScope ["_law_script", "_law_k", "_law_stock_here", "_law_members", "_law_history_here", "_law_last", "_law_lists", "_law_counts", "_law_every", "_law_member", "_law_turns", "_law_given", "_law_received", "_law_letter", "_law_turn", "_law_pair"] ["_law_script"] (defScope s_law) := ⟨rfl, rfl, rfl, by decide +kernel, rfl, by decide +kernel, by decide +kernel⟩
structure Txt (K : PySem.W.Frag) (mg : Str → Option Value) where
  f_is_name : Addr
  fd_is_name : FuncData
  F_is_name : Fun K "is_name" "is_name" s_is_name f_is_name fd_is_name
  b_is_name : Binds K fd_is_name ["value"] []
  g_is_name : mg "is_name" = some (.ref f_is_name)
  f_is_members : Addr
  fd_is_members : FuncData
  F_is_members : Fun K "is_members" "is_members" s_is_members f_is_members fd_is_members
  b_is_members : Binds K fd_is_members ["value"] []
  g_is_members : mg "is_members" = some (.ref f_is_members)
  f_need_members : Addr
  fd_need_members : FuncData
  F_need_members : Fun K "need_members" "need_members" s_need_members f_need_members fd_need_members
  b_need_members : Binds K fd_need_members ["members"] []
  g_need_members : mg "need_members" = some (.ref f_need_members)
  f_is_member : Addr
  fd_is_member : FuncData
  F_is_member : Fun K "is_member" "is_member" s_is_member f_is_member fd_is_member
  b_is_member : Binds K fd_is_member ["members", "value"] []
  g_is_member : mg "is_member" = some (.ref f_is_member)
  f_need_member : Addr
  fd_need_member : FuncData
  F_need_member : Fun K "need_member" "need_member" s_need_member f_need_member fd_need_member
  b_need_member : Binds K fd_need_member ["members", "value"] []
  g_need_member : mg "need_member" = some (.ref f_need_member)
  f_is_history : Addr
  fd_is_history : FuncData
  F_is_history : Fun K "is_history" "is_history" s_is_history f_is_history fd_is_history
  b_is_history : Binds K fd_is_history ["members", "value"] []
  g_is_history : mg "is_history" = some (.ref f_is_history)
  f_need_history : Addr
  fd_need_history : FuncData
  F_need_history : Fun K "need_history" "need_history" s_need_history f_need_history fd_need_history
  b_need_history : Binds K fd_need_history ["members", "history"] []
  g_need_history : mg "need_history" = some (.ref f_need_history)
  f_lists_of : Addr
  fd_lists_of : FuncData
  F_lists_of : Fun K "lists_of" "lists_of" s_lists_of f_lists_of fd_lists_of
  b_lists_of : Binds K fd_lists_of ["members", "history"] []
  g_lists_of : mg "lists_of" = some (.ref f_lists_of)
  f_handovers_of : Addr
  fd_handovers_of : FuncData
  F_handovers_of : Fun K "handovers_of" "handovers_of" s_handovers_of f_handovers_of fd_handovers_of
  b_handovers_of : Binds K fd_handovers_of ["members", "history"] []
  g_handovers_of : mg "handovers_of" = some (.ref f_handovers_of)
  f_turns_of : Addr
  fd_turns_of : FuncData
  F_turns_of : Fun K "turns_of" "turns_of" s_turns_of f_turns_of fd_turns_of
  b_turns_of : Binds K fd_turns_of ["members", "history", "member"] []
  g_turns_of : mg "turns_of" = some (.ref f_turns_of)
  f_l_stock : Addr
  fd_l_stock : FuncData
  F_l_stock : Fun K "_law_stock" "_law_stock" s_l_stock f_l_stock fd_l_stock
  b_l_stock : Binds K fd_l_stock ["_law_script", "_law_k"] []
  g_l_stock : mg "_law_stock" = some (.ref f_l_stock)
  f_l_dig : Addr
  fd_l_dig : FuncData
  F_l_dig : Fun K "_law_dig" "_law_dig" s_l_dig f_l_dig fd_l_dig
  b_l_dig : Binds K fd_l_dig ["_law_stock_here", "_law_size"] []
  g_l_dig : mg "_law_dig" = some (.ref f_l_dig)
  f_l_history : Addr
  fd_l_history : FuncData
  F_l_history : Fun K "_law_history" "_law_history" s_l_history f_l_history fd_l_history
  b_l_history : Binds K fd_l_history ["_law_stock_here", "_law_members", "_law_most"] []
  g_l_history : mg "_law_history" = some (.ref f_l_history)
  f_law : Addr
  fd_law : FuncData
  F_law : Fun K "law" "law" s_law f_law fd_law
  b_law : Binds K fd_law ["_law_script"] []
  g_law : mg "law" = some (.ref f_law)
  t_LETTERS : Tok
  g_LETTERS : mg "LETTERS" = some (.str "abcdefghijklmnopqrstuvwxyz" t_LETTERS)
  t_MAX_LETTERS : Tok
  g_MAX_LETTERS : mg "MAX_LETTERS" = some (.int 8 t_MAX_LETTERS)
  t_MAX_MEMBERS : Tok
  g_MAX_MEMBERS : mg "MAX_MEMBERS" = some (.int 12 t_MAX_MEMBERS)
  z_all : mg "all" = none
  z_enumerate : mg "enumerate" = none
  z_int : mg "int" = none
  z_isinstance : mg "isinstance" = none
  z_len : mg "len" = none
  z_list : mg "list" = none
  z_max : mg "max" = none
  z_min : mg "min" = none
  z_range : mg "range" = none
  z_sorted : mg "sorted" = none
  z_str : mg "str" = none
  z_sum : mg "sum" = none
  z_zip : mg "zip" = none
section
variable {P : Program} {wo : World} {K : PySem.W.Frag} {mg : Str → Option Value} {base : Heap} {CA : Str → Addr}
/-! is_name: 0:value 1:letter -/
def sg_is_name : Sg := ⟨[0], 0⟩
def b_is_name : DS := (seq (sIf (bOr (bNot (bT (d1 (gIsi .str) (dV 0)))) (bNot (bT (dChain gLe gLe (dC (.int 1)) (dN gLen (consA (dV 0) nilA)) (dC (.int 8)))))) (sRet (dC (.bl false))) skip)
  (sRet (dN gAll (consA (dLc (itKE (dV 0)) (.nm 1) bYes (d2 gIn (dV 1) (dC (.str "abcdefghijklmnopqrstuvwxyz"))) [1]) nilA))))
def m_is_name : FD := semD b_is_name sg_is_name 2
theorem pd_is_name (T : Txt K mg) : FnG P wo K mg base 1 T.f_is_name T.fd_is_name ["value"] (spD K CA sg_is_name m_is_name) := by
  have nd := sc_is_name.nd
  refine fnD [0, 0] T.F_is_name sc_is_name rfl (by decide) (by decide) (fun cd A outer s H E pw hg hr => ?_)
  have hg0 : (Around.guards A) = some [] := hg
  have hu := hu_of hr
  have hu64 : Around.units _ + 64 < cLine := hr.units
  exact ⟨_, (ss_cons (ms1 := [0, 0]) (ss_if (PW.pt (sw_or (st_not (st_val (se_isi .str (by rfl) T.z_isinstance (se_v0 (i := 0) (pv 0) rfl) (pe_bltn (by rfl) T.z_str (by decide +kernel) rfl)))) (sw_or1 (st_not (st_chain op_leV (v_cmp _ _) op_leV (v_cmp _ _) se_int (se_callB call_lenV v_len (by rfl) T.z_len (by decide +kernel) (sa_cons (se_v0 (i := 0) (pv 0) rfl) sa_nil)) (se_glob (v := .int 8) (d := .int 8) rfl (by rfl) T.g_MAX_LETTERS ⟨_, rfl⟩)))))) (ss_one (ss_ret se_bl)) ss_nil)
    (ss_one (ss_ret (se_callB (cr_all rfl) v_all (by rfl) T.z_all (by decide +kernel) (sa_cons (se_lc (own := [("letter", 1)]) (t := (.nm 1)) 0 tg_name rfl nd (si_keys (se_v0 (i := 0) (pv 0) rfl)) (blkOk_by (own := [("letter", 1)]) (N := ["value", "letter"]) (sc := defScope s_is_name) (by decide +kernel)) (fun _ _ _ _ _ => (pg_name (i := 1) nd rfl (by first | exact .inl rfl | exact .inr rfl))) (fun _ _ _ _ _ => st_yes) (fun _ _ _ _ _ => (se_cmp (op_inV hu) v_in (se_v0 (i := 1) (pv 1) rfl) (se_glob (v := .str "abcdefghijklmnopqrstuvwxyz") (d := .str "abcdefghijklmnopqrstuvwxyz") rfl (by rfl) T.g_LETTERS ⟨_, rfl⟩) (by rfl)))) sa_nil)))))⟩
/-! is_members: 0:value 1:member 2:one 3:other -/
def sg_is_members : Sg := ⟨[0], 0⟩
def b_is_members : DS := (seq (sIf (bOr (bNot (bT (d1 (gIsi .lst) (dV 0)))) (bNot (bT (dChain gLe gLe (dC (.int 1)) (dN gLen (consA (dV 0) nilA)) (dC (.int 12)))))) (sRet (dC (.bl false))) skip)
  (seq (sIf (bNot (bT (dN gAll (consA (dLc (itKE (dV 0)) (.nm 1) bYes (dCall m_is_name [.val (.own 0)] sg_is_name true (consA (dV 1) nilA)) [1]) nilA)))) (sRet (dC (.bl false))) skip)
  (sRet (dN gAll (consA (dLc (zipE (consA (dV 0) (consA (dSl (dV 0) (oSome (dC (.int 1))) oNone) nilA))) (.tp [2, 3]) bYes (d2 gLt (dV 2) (dV 3)) [2, 3]) nilA)))))
def m_is_members : FD := semD b_is_members sg_is_members 4
theorem pd_is_members (T : Txt K mg) : FnG P wo K mg base 2 T.f_is_members T.fd_is_members ["value"] (spD K CA sg_is_members m_is_members) := by
  have G_is_name : FnG P wo K mg base 1 T.f_is_name T.fd_is_name ["value"] (spD K CA sg_is_name m_is_name) := pd_is_name T
  have nd := sc_is_members.nd
  refine fnD [0, 0, 0, 0] T.F_is_members sc_is_members rfl (by decide) (by decide) (fun cd A outer s H E pw hg hr => ?_)
  have hg0 : (Around.guards A) = some [] := hg
  have hu := hu_of hr
  have hu64 : Around.units _ + 64 < cLine := hr.units
  exact ⟨_, (ss_cons (ms1 := [0, 0, 0, 0]) (ss_if (PW.pt (sw_or (st_not (st_val (se_isi .lst (by rfl) T.z_isinstance (se_v0 (i := 0) (pv 0) rfl) (pe_bltn (by rfl) T.z_list (by decide +kernel) rfl)))) (sw_or1 (st_not (st_chain op_leV (v_cmp _ _) op_leV (v_cmp _ _) se_int (se_callB call_lenV v_len (by rfl) T.z_len (by decide +kernel) (sa_cons (se_v0 (i := 0) (pv 0) rfl) sa_nil)) (se_glob (v := .int 12) (d := .int 12) rfl (by rfl) T.g_MAX_MEMBERS ⟨_, rfl⟩)))))) (ss_one (ss_ret se_bl)) ss_nil)
    (ss_cons (ms1 := [0, 0, 0, 0]) (ss_if (st_not (st_val (se_callB (cr_all rfl) v_all (by rfl) T.z_all (by decide +kernel) (sa_cons (se_lc (own := [("member", 1)]) (t := (.nm 1)) 0 tg_name rfl nd (si_keys (se_v0 (i := 0) (pv 0) rfl)) (blkOk_by (own := [("member", 1)]) (N := ["value", "member", "one", "other"]) (sc := defScope s_is_members) (by decide +kernel)) (fun _ _ _ _ _ => (pg_name (i := 1) nd rfl (by first | exact .inl rfl | exact .inr rfl))) (fun _ _ _ _ _ => st_yes) (fun _ _ _ _ _ => (se_call (bb := true) G_is_name hg0 (hr.mono (by decide)) (by rfl) T.g_is_name T.F_is_name.kp T.b_is_name (sc_val (se_v0 (i := 1) (pv 1) rfl) sc_nil)))) sa_nil)))) (ss_one (ss_ret se_bl)) ss_nil)
    (ss_one (ss_ret (se_callB (cr_all rfl) v_all (by rfl) T.z_all (by decide +kernel) (sa_cons (se_lc (own := [("one", 2), ("other", 3)]) (t := (.tp [2, 3])) 0 (tg_tup (semN_cons (i := 2) (semN_cons (i := 3) semN_nil))) rfl nd (si_zip (by rfl) T.z_zip (sa_cons (se_v0 (i := 0) (pv 0) rfl) (sa_cons (se_sl (se_v0 (i := 0) (pv 0) rfl) (so_some se_int) so_none) sa_nil))) (blkOk_by (own := [("one", 2), ("other", 3)]) (N := ["value", "member", "one", "other"]) (sc := defScope s_is_members) (by decide +kernel)) (fun _ _ _ _ _ => (pg_tup rfl (pgs_cons (pg_name (i := 2) nd rfl (by first | exact .inl rfl | exact .inr rfl)) (pgs_cons (pg_name (i := 3) nd rfl (by first | exact .inl rfl | exact .inr rfl)) pgs_nil)))) (fun _ _ _ _ _ => st_yes) (fun _ _ _ _ _ => (se_cmp op_ltV (v_cmp _ _) (se_v0 (i := 2) (pv 2) rfl) (se_v0 (i := 3) (pv 3) rfl) (by rfl)))) sa_nil))))))⟩
/-! need_members: 0:members -/
def sg_need_members : Sg := ⟨[0], 0⟩
def b_need_members : DS := (sIf (bNot (bT (dCall m_is_members [.val (.own 0)] sg_is_members true (consA (dV 0) nilA)))) sStop skip)
def m_need_members : FD := semD b_need_members sg_need_members 1
theorem pd_need_members (T : Txt K mg) : FnG P wo K mg base 3 T.f_need_members T.fd_need_members ["members"] (spD K CA sg_need_members m_need_members) := by
  have G_is_members : FnG P wo K mg base 2 T.f_is_members T.fd_is_members ["value"] (spD K CA sg_is_members m_is_members) := pd_is_members T
  have nd := sc_need_members.nd
  refine fnD [0] T.F_need_members sc_need_members rfl (by decide) (by decide) (fun cd A outer s H E pw hg hr => ?_)
  have hg0 : (Around.guards A) = some [] := hg
  have hu := hu_of hr
  have hu64 : Around.units _ + 64 < cLine := hr.units
  exact ⟨_, (ss_one (ss_if (st_not (st_val (se_call (bb := true) G_is_members hg0 (hr.mono (by decide)) (by rfl) T.g_is_members T.F_is_members.kp T.b_is_members (sc_val (se_v0 (i := 0) (pv 0) rfl) sc_nil)))) (ss_one ss_stop) ss_nil))⟩
/-! is_member: 0:members 1:value -/
def sg_is_member : Sg := ⟨[0, 0], 0⟩
def b_is_member : DS := (sRet (dAnd (d1 (gIsi .str) (dV 1)) (d2 gIn (dV 1) (dV 0))))
def m_is_member : FD := semD b_is_member sg_is_member 2
theorem pd_is_member (T : Txt K mg) : FnG P wo K mg base 1 T.f_is_member T.fd_is_member ["members", "value"] (spD K CA sg_is_member m_is_member) := by
  have nd := sc_is_member.nd
  refine fnD [0, 0] T.F_is_member sc_is_member rfl (by decide) (by decide) (fun cd A outer s H E pw hg hr => ?_)
  have hg0 : (Around.guards A) = some [] := hg
  have hu := hu_of hr
  have hu64 : Around.units _ + 64 < cLine := hr.units
  exact ⟨_, (ss_one (ss_ret (se_and (se_isi .str (by rfl) T.z_isinstance (se_v0 (i := 1) (pv 1) rfl) (pe_bltn (by rfl) T.z_str (by decide +kernel) rfl)) (se_one (se_cmp (op_inV hu) v_in (se_v0 (i := 1) (pv 1) rfl) (se_v0 (i := 0) (pv 0) rfl) (by rfl))))))⟩
/-! need_member: 0:members 1:value -/
def sg_need_member : Sg := ⟨[0, 0], 0⟩
def b_need_member : DS := (sIf (bNot (bT (dCall m_is_member [.val (.own 0), .val (.own 0)] sg_is_member true (consA (dV 0) (consA (dV 1) nilA))))) sStop skip)
def m_need_member : FD := semD b_need_member sg_need_member 2
theorem pd_need_member (T : Txt K mg) : FnG P wo K mg base 2 T.f_need_member T.fd_need_member ["members", "value"] (spD K CA sg_need_member m_need_member) := by
  have G_is_member : FnG P wo K mg base 1 T.f_is_member T.fd_is_member ["members", "value"] (spD K CA sg_is_member m_is_member) := pd_is_member T
  have nd := sc_need_member.nd
  refine fnD [0, 0] T.F_need_member sc_need_member rfl (by decide) (by decide) (fun cd A outer s H E pw hg hr => ?_)
  have hg0 : (Around.guards A) = some [] := hg
  have hu := hu_of hr
  have hu64 : Around.units _ + 64 < cLine := hr.units
  exact ⟨_, (ss_one (ss_if (st_not (st_val (se_call (bb := true) G_is_member hg0 (hr.mono (by decide)) (by rfl) T.g_is_member T.F_is_member.kp T.b_is_member (sc_val (se_v0 (i := 0) (pv 0) rfl) (sc_val (se_v0 (i := 1) (pv 1) rfl) sc_nil))))) (ss_one ss_stop) ss_nil))⟩
/-! is_history: 0:members 1:value 2:one 3:other -/
def sg_is_history : Sg := ⟨[0, 0], 0⟩
def b_is_history : DS := (seq (sExpr (dCall m_need_members [.val (.own 0)] sg_need_members true (consA (dV 0) nilA)))
  (seq (sIf (bOr (bNot (bT (d1 (gIsi .lst) (dV 1)))) (bOr (bT (d2 gEqX (dV 1) (dN gLst nilA))) (bNot (bT (dN gAll (consA (dLc (itKE (dV 1)) (.nm 2) bYes (dCall m_is_member [.val (.own 0), .val (.own 0)] sg_is_member true (consA (dV 0) (consA (dV 2) nilA))) [2]) nilA)))))) (sRet (dC (.bl false))) skip)
  (sRet (dN gAll (consA (dLc (zipE (consA (dV 1) (consA (dSl (dV 1) (oSome (dC (.int 1))) oNone) nilA))) (.tp [2, 3]) bYes (d2 gNeX (dV 2) (dV 3)) [2, 3]) nilA)))))
def m_is_history : FD := semD b_is_history sg_is_history 4
theorem pd_is_history (T : Txt K mg) : FnG P wo K mg base 4 T.f_is_history T.fd_is_history ["members", "value"] (spD K CA sg_is_history m_is_history) := by
  have G_need_members : FnG P wo K mg base 3 T.f_need_members T.fd_need_members ["members"] (spD K CA sg_need_members m_need_members) := pd_need_members T
  have G_is_member : FnG P wo K mg base 1 T.f_is_member T.fd_is_member ["members", "value"] (spD K CA sg_is_member m_is_member) := pd_is_member T
  have nd := sc_is_history.nd
  refine fnD [0, 0, 0, 0] T.F_is_history sc_is_history rfl (by decide) (by decide) (fun cd A outer s H E pw hg hr => ?_)
  have hg0 : (Around.guards A) = some [] := hg
  have hu := hu_of hr
  have hu64 : Around.units _ + 64 < cLine := hr.units
  exact ⟨_, (ss_cons (ms1 := [0, 0, 0, 0]) (ss_expr (se_call (bb := true) G_need_members hg0 (hr.mono (by decide)) (by rfl) T.g_need_members T.F_need_members.kp T.b_need_members (sc_val (se_v0 (i := 0) (pv 0) rfl) sc_nil)))
    (ss_cons (ms1 := [0, 0, 0, 0]) (ss_if (PW.pt (sw_or (st_not (st_val (se_isi .lst (by rfl) T.z_isinstance (se_v0 (i := 1) (pv 1) rfl) (pe_bltn (by rfl) T.z_list (by decide +kernel) rfl)))) (sw_or (st_cmp ((PD.op_eqV hu64).or (op_eqDD hu64)) v_eqX (se_v0 (i := 1) (pv 1) rfl) (se_lst 0 sa_nil) (by rfl)) (sw_or1 (st_not (st_val (se_callB (cr_all rfl) v_all (by rfl) T.z_all (by decide +kernel) (sa_cons (se_lc (own := [("one", 2)]) (t := (.nm 2)) 0 tg_name rfl nd (si_keys (se_v0 (i := 1) (pv 1) rfl)) (blkOk_by (own := [("one", 2)]) (N := ["members", "value", "one", "other"]) (sc := defScope s_is_history) (by decide +kernel)) (fun _ _ _ _ _ => (pg_name (i := 2) nd rfl (by first | exact .inl rfl | exact .inr rfl))) (fun _ _ _ _ _ => st_yes) (fun _ _ _ _ _ => (se_call (bb := true) G_is_member hg0 (hr.mono (by decide)) (by rfl) T.g_is_member T.F_is_member.kp T.b_is_member (sc_val (se_v0 (i := 0) (pv 0) rfl) (sc_val (se_v0 (i := 2) (pv 2) rfl) sc_nil))))) sa_nil)))))))) (ss_one (ss_ret se_bl)) ss_nil)
    (ss_one (ss_ret (se_callB (cr_all rfl) v_all (by rfl) T.z_all (by decide +kernel) (sa_cons (se_lc (own := [("one", 2), ("other", 3)]) (t := (.tp [2, 3])) 0 (tg_tup (semN_cons (i := 2) (semN_cons (i := 3) semN_nil))) rfl nd (si_zip (by rfl) T.z_zip (sa_cons (se_v0 (i := 1) (pv 1) rfl) (sa_cons (se_sl (se_v0 (i := 1) (pv 1) rfl) (so_some se_int) so_none) sa_nil))) (blkOk_by (own := [("one", 2), ("other", 3)]) (N := ["members", "value", "one", "other"]) (sc := defScope s_is_history) (by decide +kernel)) (fun _ _ _ _ _ => (pg_tup rfl (pgs_cons (pg_name (i := 2) nd rfl (by first | exact .inl rfl | exact .inr rfl)) (pgs_cons (pg_name (i := 3) nd rfl (by first | exact .inl rfl | exact .inr rfl)) pgs_nil)))) (fun _ _ _ _ _ => st_yes) (fun _ _ _ _ _ => (se_cmp ((PD.op_neV hu64).or (op_neDD hu64)) v_neX (se_v0 (i := 2) (pv 2) rfl) (se_v0 (i := 3) (pv 3) rfl) (by rfl)))) sa_nil))))))⟩
/-! need_history: 0:members 1:history -/
def sg_need_history : Sg := ⟨[0, 0], 0⟩
def b_need_history : DS := (sIf (bNot (bT (dCall m_is_history [.val (.own 0), .val (.own 0)] sg_is_history true (consA (dV 0) (consA (dV 1) nilA))))) sStop skip)
def m_need_history : FD := semD b_need_history sg_need_history 2
theorem pd_need_history (T : Txt K mg) : FnG P wo K mg base 5 T.f_need_history T.fd_need_history ["members", "history"] (spD K CA sg_need_history m_need_history) := by
  have G_is_history : FnG P wo K mg base 4 T.f_is_history T.fd_is_history ["members", "value"] (spD K CA sg_is_history m_is_history) := pd_is_history T
  have nd := sc_need_history.nd
  refine fnD [0, 0] T.F_need_history sc_need_history rfl (by decide) (by decide) (fun cd A outer s H E pw hg hr => ?_)
  have hg0 : (Around.guards A) = some [] := hg
  have hu := hu_of hr
  have hu64 : Around.units _ + 64 < cLine := hr.units
  exact ⟨_, (ss_one (ss_if (st_not (st_val (se_call (bb := true) G_is_history hg0 (hr.mono (by decide)) (by rfl) T.g_is_history T.F_is_history.kp T.b_is_history (sc_val (se_v0 (i := 0) (pv 0) rfl) (sc_val (se_v0 (i := 1) (pv 1) rfl) sc_nil))))) (ss_one ss_stop) ss_nil))⟩
/-! lists_of: 0:members 1:history 2:found 3:giver 4:receiver 5:member -/
def sg_lists_of : Sg := ⟨[0, 0], 0⟩
def b_lists_of : DS := (seq (sExpr (dCall m_need_history [.val (.own 0), .val (.own 0)] sg_need_history true (consA (dV 0) (consA (dV 1) nilA))))
  (seq (sSet 2 (dDc 1 (itKE (dV 0)) (.nm 5) bYes (dV 5) (dN gLst nilA) [5]))
  (seq (sFor (.tp [3, 4]) (zipE (consA (dV 1) (consA (dSl (dV 1) (oSome (dC (.int 1))) oNone) nilA))) (sExpr (dLmP 2 (dV 4) fApp (consA (dV 3) nilA))))
  (sRet (dV 2)))))
def m_lists_of : FD := semD b_lists_of sg_lists_of 6
theorem pd_lists_of (T : Txt K mg) : FnG P wo K mg base 6 T.f_lists_of T.fd_lists_of ["members", "history"] (spD K CA sg_lists_of m_lists_of) := by
  have G_need_history : FnG P wo K mg base 5 T.f_need_history T.fd_need_history ["members", "history"] (spD K CA sg_need_history m_need_history) := pd_need_history T
  have nd := sc_lists_of.nd
  refine fnD [0, 0, 2, 0, 0, 0] T.F_lists_of sc_lists_of rfl (by decide) (by decide) (fun cd A outer s H E pw hg hr => ?_)
  have hg0 : (Around.guards A) = some [] := hg
  have hu := hu_of hr
  have hu64 : Around.units _ + 64 < cLine := hr.units
  exact ⟨_, (ss_cons (ms1 := [0, 0, 2, 0, 0, 0]) (ss_expr (se_call (bb := true) G_need_history hg0 (hr.mono (by decide)) (by rfl) T.g_need_history T.F_need_history.kp T.b_need_history (sc_val (se_v0 (i := 0) (pv 0) rfl) (sc_val (se_v0 (i := 1) (pv 1) rfl) sc_nil))))
    (ss_cons (ms1 := [0, 0, 2, 0, 0, 0]) (ss_setDc (own := [("member", 5)]) (t := (.nm 5)) (i := 2) 1 tg_name rfl nd rfl rfl (sw_dict rfl rfl rfl (by decide +kernel)) (si_keys (se_v0 (i := 0) (pv 0) rfl)) (blkOk_by (own := [("member", 5)]) (N := ["members", "history", "found", "giver", "receiver", "member"]) (sc := defScope s_lists_of) (by decide +kernel)) (fun _ _ _ _ _ => (pg_name (i := 5) nd rfl (by first | exact .inl rfl | exact .inr rfl))) (fun _ _ _ _ _ => st_yes) (fun _ _ _ _ _ => (se_v0 (i := 5) (pv 5) rfl)) (fun _ _ _ _ _ => (se_lst 0 sa_nil)))
    (ss_cons (ms1 := [0, 0, 0, 0, 0, 0]) (ss_frzN 2 (ss_for (tg_tup (semN_cons (i := 3) (semN_cons (i := 4) semN_nil))) (pg_tup rfl (pgs_cons (pg_name (i := 3) nd rfl (by first | exact .inl rfl | exact .inr rfl)) (pgs_cons (pg_name (i := 4) nd rfl (by first | exact .inl rfl | exact .inr rfl)) pgs_nil))) PassesOwn.never rfl (si_zip (by rfl) T.z_zip (sa_cons (se_v0 (i := 1) (pv 1) rfl) (sa_cons (se_sl (se_v0 (i := 1) (pv 1) rfl) (so_some se_int) so_none) sa_nil))) (ss_one (ss_expr (se_lmP (i := 2) PySem.F.slot_list_append PySem.F.type_list_append mt_append vm_app hu (pv 2) (se_v0 (i := 4) (pv 4) rfl) (sa_cons (se_v0 (i := 3) (pv 3) rfl) sa_nil))))))
    (ss_one (ss_ret (se_v0 (i := 2) (pv 2) rfl))))))⟩
/-! handovers_of: 0:members 1:history 2:found 3:pair -/
def sg_handovers_of : Sg := ⟨[0, 0], 0⟩
def b_handovers_of : DS := (seq (sExpr (dCall m_need_history [.val (.own 0), .val (.own 0)] sg_need_history true (consA (dV 0) (consA (dV 1) nilA))))
  (seq (sSet 2 (dC (.dtt [])))
  (seq (sFor (.nm 3) (itE (dN gSortZ (consA (dV 1) (consA (dSl (dV 1) (oSome (dC (.int 1))) oNone) nilA)))) (sSto 2 (d2 gAdd (dGet2 (dDic (dV 2)) (dV 3) (dC (.int 0))) (dC (.int 1))) (dV 3)))
  (sRet (dV 2)))))
def m_handovers_of : FD := semD b_handovers_of sg_handovers_of 4
theorem pd_handovers_of (T : Txt K mg) : FnG P wo K mg base 6 T.f_handovers_of T.fd_handovers_of ["members", "history"] (spD K CA sg_handovers_of m_handovers_of) := by
  have G_need_history : FnG P wo K mg base 5 T.f_need_history T.fd_need_history ["members", "history"] (spD K CA sg_need_history m_need_history) := pd_need_history T
  have nd := sc_handovers_of.nd
  refine fnD [0, 0, 1, 0] T.F_handovers_of sc_handovers_of rfl (by decide) (by decide) (fun cd A outer s H E pw hg hr => ?_)
  have hg0 : (Around.guards A) = some [] := hg
  have hu := hu_of hr
  have hu64 : Around.units _ + 64 < cLine := hr.units
  exact ⟨_, (ss_cons (ms1 := [0, 0, 1, 0]) (ss_expr (se_call (bb := true) G_need_history hg0 (hr.mono (by decide)) (by rfl) T.g_need_history T.F_need_history.kp T.b_need_history (sc_val (se_v0 (i := 0) (pv 0) rfl) (sc_val (se_v0 (i := 1) (pv 1) rfl) sc_nil))))
    (ss_cons (ms1 := [0, 0, 1, 0]) (ss_set (i := 2) (m := 1) nd rfl (by first | exact .inl rfl | exact .inr rfl) (se_dnewT 0))
    (ss_cons (ms1 := [0, 0, 0, 0]) (ss_frzN 2 (ss_for tg_name (pg_name (i := 3) nd rfl (by first | exact .inl rfl | exact .inr rfl)) PassesOwn.never rfl (si_seq (se_sortedZip (by rfl) T.z_sorted (by rfl) T.z_zip (sa_cons (se_v0 (i := 1) (pv 1) rfl) (sa_cons (se_sl (se_v0 (i := 1) (pv 1) rfl) (so_some se_int) so_none) sa_nil)))) (ss_one (ss_sto (i := 2) hu (pv 2) (se_v0 (i := 3) (pv 3) rfl) (se_bin op_addV v_add (se_get2 hu (se_v (i := 2) (pv 2) rfl) (se_v0 (i := 3) (pv 3) rfl) se_int) se_int)))))
    (ss_one (ss_ret (se_v0 (i := 2) (pv 2) rfl))))))⟩
/-! turns_of: 0:members 1:history 2:member 3:index 4:holder -/
def sg_turns_of : Sg := ⟨[0, 0, 0], 0⟩
def b_turns_of : DS := (seq (sExpr (dCall m_need_history [.val (.own 0), .val (.own 0)] sg_need_history true (consA (dV 0) (consA (dV 1) nilA))))
  (seq (sExpr (dCall m_need_member [.val (.own 0), .val (.own 0)] sg_need_member true (consA (dV 0) (consA (dV 2) nilA))))
  (sRet (dLc (enumE (consA (dV 1) nilA)) (.tp [3, 4]) (bT (d2 gEqX (dV 4) (dV 2))) (dV 3) [3, 4]))))
def m_turns_of : FD := semD b_turns_of sg_turns_of 5
theorem pd_turns_of (T : Txt K mg) : FnG P wo K mg base 6 T.f_turns_of T.fd_turns_of ["members", "history", "member"] (spD K CA sg_turns_of m_turns_of) := by
  have G_need_history : FnG P wo K mg base 5 T.f_need_history T.fd_need_history ["members", "history"] (spD K CA sg_need_history m_need_history) := pd_need_history T
  have G_need_member : FnG P wo K mg base 2 T.f_need_member T.fd_need_member ["members", "value"] (spD K CA sg_need_member m_need_member) := pd_need_member T
  have nd := sc_turns_of.nd
  refine fnD [0, 0, 0, 0, 0] T.F_turns_of sc_turns_of rfl (by decide) (by decide) (fun cd A outer s H E pw hg hr => ?_)
  have hg0 : (Around.guards A) = some [] := hg
  have hu := hu_of hr
  have hu64 : Around.units _ + 64 < cLine := hr.units
  exact ⟨_, (ss_cons (ms1 := [0, 0, 0, 0, 0]) (ss_expr (se_call (bb := true) G_need_history hg0 (hr.mono (by decide)) (by rfl) T.g_need_history T.F_need_history.kp T.b_need_history (sc_val (se_v0 (i := 0) (pv 0) rfl) (sc_val (se_v0 (i := 1) (pv 1) rfl) sc_nil))))
    (ss_cons (ms1 := [0, 0, 0, 0, 0]) (ss_expr (se_call (bb := true) G_need_member hg0 (hr.mono (by decide)) (by rfl) T.g_need_member T.F_need_member.kp T.b_need_member (sc_val (se_v0 (i := 0) (pv 0) rfl) (sc_val (se_v0 (i := 2) (pv 2) rfl) sc_nil))))
    (ss_one (ss_ret (se_frz (se_lc (own := [("index", 3), ("holder", 4)]) (t := (.tp [3, 4])) 0 (tg_tup (semN_cons (i := 3) (semN_cons (i := 4) semN_nil))) rfl nd (si_enum (by rfl) T.z_enumerate (sa_cons (se_v0 (i := 1) (pv 1) rfl) sa_nil)) (blkOk_by (own := [("index", 3), ("holder", 4)]) (N := ["members", "history", "member", "index", "holder"]) (sc := defScope s_turns_of) (by decide +kernel)) (fun _ _ _ _ _ => (pg_tup rfl (pgs_cons (pg_name (i := 3) nd rfl (by first | exact .inl rfl | exact .inr rfl)) (pgs_cons (pg_name (i := 4) nd rfl (by first | exact .inl rfl | exact .inr rfl)) pgs_nil)))) (fun _ _ _ _ _ => (st_one (st_cmp ((PD.op_eqV hu64).or (op_eqDD hu64)) v_eqX (se_v0 (i := 4) (pv 4) rfl) (se_v0 (i := 2) (pv 2) rfl) (by rfl)))) (fun _ _ _ _ _ => (se_v0 (i := 3) (pv 3) rfl))))))))⟩
/-! _law_stock: 0:_law_script 1:_law_k 2:_law_cell -/
def sg_l_stock : Sg := ⟨[0, 0], 1⟩
def b_l_stock : DS := (seq (sSet 2 (dC (.int 0)))
  (seq (sIf (bT (d2 gLt (dV 1) (dN gLen (consA (dV 0) nilA)))) (sSet 2 (d2 gSub (dV 0) (dV 1))) skip)
  (sRet (dN gLst (consA (dN gMax2 (consA (dC (.int 0)) (consA (d2 gSubI (dV 2) (d2 gPow (dC (.int 10)) (dC (.int 18)))) nilA))) (consA (d2 gAdd (d2 gAdd (d2 gMul (d2 gMod (dV 2) (d2 gAdd (d2 gPow (dC (.int 10)) (dC (.int 42))) (dC (.int 63)))) (dC (.int 4096))) (d2 gMul (dC (.int 17)) (dV 1))) (dC (.int 1))) (consA (dC (.int 0)) nilA)))))))
def m_l_stock : FD := semD b_l_stock sg_l_stock 3
theorem pd_l_stock (T : Txt K mg) : FnG P wo K mg base 1 T.f_l_stock T.fd_l_stock ["_law_script", "_law_k"] (spD K CA sg_l_stock m_l_stock) := by
  have nd := sc_l_stock.nd
  refine fnD [0, 0, 0] T.F_l_stock sc_l_stock rfl (by decide) (by decide) (fun cd A outer s H E pw hg hr => ?_)
  have hg0 : (Around.guards A) = some [] := hg
  have hu := hu_of hr
  have hu64 : Around.units _ + 64 < cLine := hr.units
  exact ⟨_, (ss_cons (ms1 := [0, 0, 0]) (ss_set (i := 2) (m := 0) nd rfl (by first | exact .inl rfl | exact .inr rfl) se_int)
    (ss_cons (ms1 := [0, 0, 0]) (ss_if (st_cmp op_ltV (v_cmp _ _) (se_v0 (i := 1) (pv 1) rfl) (se_callB call_lenV v_len (by rfl) T.z_len (by decide +kernel) (sa_cons (se_v0 (i := 0) (pv 0) rfl) sa_nil)) (by rfl)) (ss_one (ss_set (i := 2) (m := 0) nd rfl (by first | exact .inl rfl | exact .inr rfl) (se_sub hu (se_v0 (i := 0) (pv 0) rfl) (se_v0 (i := 1) (pv 1) rfl) (fun _ _ => rfl)))) ss_nil)
    (ss_one (ss_ret (se_lst 0 (sa_cons (se_callB (call_max2 rfl) v_max2 (by rfl) T.z_max (by decide +kernel) (sa_cons se_int (sa_cons (se_bin op_sub (v_I0 _) (se_v0 (i := 2) (pv 2) rfl) (se_bin op_powW (v_I _ _) se_int se_int)) sa_nil))) (sa_cons (se_bin op_addV v_add (se_bin op_addV v_add (se_bin op_mulW (v_I _ _) (se_bin op_mod (v_I _ _) (se_v0 (i := 2) (pv 2) rfl) (se_bin op_addV v_add (se_bin op_powW (v_I _ _) se_int se_int) se_int)) se_int) (se_bin op_mulW (v_I _ _) se_int (se_v0 (i := 1) (pv 1) rfl))) se_int) (sa_cons se_int sa_nil))))))))⟩
/-! _law_dig: 0:_law_stock_here 1:_law_size 2:_law_found 3:_law_mixed -/
def sg_l_dig : Sg := ⟨[1, 0], 0⟩
def b_l_dig : DS := (seq (sIf (bT (d2 gGt (d2 gSub (dV 0) (dC (.int 0))) (dC (.int 0)))) (seq (sSet 2 (d2 gMod (d2 gSub (dV 0) (dC (.int 0))) (dV 1)))
  (seq (sSto 0 (d2 gDiv (d2 gSub (dV 0) (dC (.int 0))) (dV 1)) (dC (.int 0)))
  (sRet (dV 2)))) skip)
  (seq (sSto 0 (d2 gAdd (d2 gSub (dV 0) (dC (.int 2))) (dC (.int 1))) (dC (.int 2)))
  (seq (sSet 3 (d2 gMod (d2 gPow (d2 gAdd (d2 gSub (dV 0) (dC (.int 1))) (d2 gMul (dC (.int 1500450271)) (d2 gSub (dV 0) (dC (.int 2))))) (dC (.int 3))) (d2 gAdd (d2 gPow (dC (.int 10)) (dC (.int 41))) (dC (.int 37)))))
  (seq (sSet 3 (d2 gMod (d2 gAdd (d2 gMul (dV 3) (dV 3)) (d2 gMul (dC (.int 3367900313)) (d2 gSub (dV 0) (dC (.int 2))))) (d2 gAdd (d2 gPow (dC (.int 10)) (dC (.int 43))) (dC (.int 57)))))
  (sRet (d2 gMod (d2 gDiv (dV 3) (dC (.int 393241))) (dV 1)))))))
def m_l_dig : FD := semD b_l_dig sg_l_dig 4
theorem pd_l_dig (T : Txt K mg) : FnG P wo K mg base 1 T.f_l_dig T.fd_l_dig ["_law_stock_here", "_law_size"] (spD K CA sg_l_dig m_l_dig) := by
  have nd := sc_l_dig.nd
  refine fnD [1, 0, 0, 0] T.F_l_dig sc_l_dig rfl (by decide) (by decide) (fun cd A outer s H E pw hg hr => ?_)
  have hg0 : (Around.guards A) = some [] := hg
  have hu := hu_of hr
  have hu64 : Around.units _ + 64 < cLine := hr.units
  exact ⟨_, (ss_cons (ms1 := [1, 0, 0, 0]) (ss_if (st_cmp op_gtV (v_cmp _ _) (se_sub hu (se_v (i := 0) (pv 0) rfl) se_int (fun _ _ => rfl)) se_int (by rfl)) (ss_cons (ms1 := [1, 0, 0, 0]) (ss_set (i := 2) (m := 0) nd rfl (by first | exact .inl rfl | exact .inr rfl) (se_bin op_mod (v_I _ _) (se_sub hu (se_v (i := 0) (pv 0) rfl) se_int (fun _ _ => rfl)) (se_v0 (i := 1) (pv 1) rfl)))
    (ss_cons (ms1 := [1, 0, 0, 0]) (ss_sto (i := 0) hu (pv 0) se_int (se_bin op_fdivW (v_I _ _) (se_sub hu (se_v (i := 0) (pv 0) rfl) se_int (fun _ _ => rfl)) (se_v0 (i := 1) (pv 1) rfl)))
    (ss_one (ss_ret (se_v0 (i := 2) (pv 2) rfl))))) ss_nil)
    (ss_cons (ms1 := [1, 0, 0, 0]) (ss_sto (i := 0) hu (pv 0) se_int (se_bin op_addV v_add (se_sub hu (se_v (i := 0) (pv 0) rfl) se_int (fun _ _ => rfl)) se_int))
    (ss_cons (ms1 := [1, 0, 0, 0]) (ss_set (i := 3) (m := 0) nd rfl (by first | exact .inl rfl | exact .inr rfl) (se_bin op_mod (v_I _ _) (se_bin op_powW (v_I _ _) (se_bin op_addV v_add (se_sub hu (se_v (i := 0) (pv 0) rfl) se_int (fun _ _ => rfl)) (se_bin op_mulW (v_I _ _) se_int (se_sub hu (se_v (i := 0) (pv 0) rfl) se_int (fun _ _ => rfl)))) se_int) (se_bin op_addV v_add (se_bin op_powW (v_I _ _) se_int se_int) se_int)))
    (ss_cons (ms1 := [1, 0, 0, 0]) (ss_set (i := 3) (m := 0) nd rfl (by first | exact .inl rfl | exact .inr rfl) (se_bin op_mod (v_I _ _) (se_bin op_addV v_add (se_bin op_mulW (v_I _ _) (se_v0 (i := 3) (pv 3) rfl) (se_v0 (i := 3) (pv 3) rfl)) (se_bin op_mulW (v_I _ _) se_int (se_sub hu (se_v (i := 0) (pv 0) rfl) se_int (fun _ _ => rfl)))) (se_bin op_addV v_add (se_bin op_powW (v_I _ _) se_int se_int) se_int)))
    (ss_one (ss_ret (se_bin op_mod (v_I _ _) (se_bin op_fdivW (v_I _ _) (se_v0 (i := 3) (pv 3) rfl) se_int) (se_v0 (i := 1) (pv 1) rfl))))))))⟩
/-! _law_history: 0:_law_stock_here 1:_law_members 2:_law_most 3:_law_found 4:_law_style 5:_law_turn 6:_law_others 7:_law_after 8:_law_chosen 9:_law_member -/
def sg_l_history : Sg := ⟨[1, 0, 0], 0⟩
def b_l_history : DS := (seq (sPar [3, 4] (consA (dN gLst (consA (d2 gSub (dV 1) (dCall m_l_dig [.slt 0, .val (.own 0)] sg_l_dig true (consS 0 (consA (dN gLen (consA (dV 1) nilA)) nilA)))) nilA)) (consA (dCall m_l_dig [.slt 0, .val (.own 0)] sg_l_dig true (consS 0 (consA (dC (.int 3)) nilA))) nilA)))
  (seq (sFor (.nm 5) (rngE (consA (d2 gMul (dCall m_l_dig [.slt 0, .val (.own 0)] sg_l_dig true (consS 0 (consA (d2 gAdd (dV 2) (dC (.int 1))) nilA))) (dN gInt (consA (d2 gGt (dN gLen (consA (dV 1) nilA)) (dC (.int 1))) nilA))) nilA)) (seq (sSet 6 (dLc (itKE (dV 1)) (.nm 9) (bT (d2 gNeX (dV 9) (d2 gSub (dV 3) (d1 gNeg (dC (.int 1)))))) (dV 9) [9]))
  (seq (sSet 7 (d2 gCat (dLc (itKE (dV 6)) (.nm 9) (bT (d2 gGt (dV 9) (d2 gSub (dV 3) (d1 gNeg (dC (.int 1)))))) (dV 9) [9]) (dV 6)))
  (seq (sSet 8 (d2 gSub (dN gLst (consA (d2 gSub (dV 6) (dCall m_l_dig [.slt 0, .val (.own 0)] sg_l_dig true (consS 0 (consA (dN gLen (consA (dV 6) nilA)) nilA)))) (consA (d2 gSub (dSl (dV 3) (oSome (d1 gNeg (dC (.int 2)))) oNone) (dC (.int 0))) (consA (d2 gSub (dV 7) (dC (.int 0))) nilA)))) (dV 4)))
  (seq (sIf (bOr (bT (d2 gEqX (dV 8) (d2 gSub (dV 3) (d1 gNeg (dC (.int 1)))))) (bT (d2 gEqX (dCall m_l_dig [.slt 0, .val (.own 0)] sg_l_dig true (consS 0 (consA (dC (.int 4)) nilA))) (dC (.int 0))))) (sSet 8 (d2 gSub (dV 6) (dCall m_l_dig [.slt 0, .val (.own 0)] sg_l_dig true (consS 0 (consA (dN gLen (consA (dV 6) nilA)) nilA))))) skip)
  (sExpr (dLm 3 fApp (consA (dV 8) nilA))))))))
  (sRet (dV 3))))
def m_l_history : FD := semD b_l_history sg_l_history 10
theorem pd_l_history (T : Txt K mg) : FnG P wo K mg base 2 T.f_l_history T.fd_l_history ["_law_stock_here", "_law_members", "_law_most"] (spD K CA sg_l_history m_l_history) := by
  have G_l_dig : FnG P wo K mg base 1 T.f_l_dig T.fd_l_dig ["_law_stock_here", "_law_size"] (spD K CA sg_l_dig m_l_dig) := pd_l_dig T
  have nd := sc_l_history.nd
  refine fnD [1, 0, 0, 1, 0, 0, 0, 0, 0, 0] T.F_l_history sc_l_history rfl (by decide) (by decide) (fun cd A outer s H E pw hg hr => ?_)
  have hg0 : (Around.guards A) = some [] := hg
  have hu := hu_of hr
  have hu64 : Around.units _ + 64 < cLine := hr.units
  exact ⟨_, (ss_cons (ms1 := [1, 0, 0, 1, 0, 0, 0, 0, 0, 0]) (ss_parT (is := [3, 4]) (mm := [1, 0]) (tg_tup (semN_cons (i := 3) (semN_cons (i := 4) semN_nil))) (pg_tup rfl (pgs_cons (pg_name (i := 3) nd rfl (by first | exact .inl rfl | exact .inr rfl)) (pgs_cons (pg_name (i := 4) nd rfl (by first | exact .inl rfl | exact .inr rfl)) pgs_nil))) (sa_cons (se_lst 0 (sa_cons (se_sub hu (se_v0 (i := 1) (pv 1) rfl) (se_call (bb := true) G_l_dig hg0 (hr.mono (by decide)) (by rfl) T.g_l_dig T.F_l_dig.kp T.b_l_dig (sc_slt (j := 0) (pv 0) (sc_val (se_callB call_lenV v_len (by rfl) T.z_len (by decide +kernel) (sa_cons (se_v0 (i := 1) (pv 1) rfl) sa_nil)) sc_nil))) (fun _ _ => rfl)) sa_nil)) (sa_cons (se_call (bb := true) G_l_dig hg0 (hr.mono (by decide)) (by rfl) T.g_l_dig T.F_l_dig.kp T.b_l_dig (sc_slt (j := 0) (pv 0) (sc_val se_int sc_nil))) sa_nil)))
    (ss_cons (ms1 := [1, 0, 0, 0, 0, 0, 0, 0, 0, 0]) (ss_frzN 3 (ss_for tg_name (pg_name (i := 5) nd rfl (by first | exact .inl rfl | exact .inr rfl)) PassesOwn.never rfl (si_range1 (by rfl) T.z_range (sa_cons (se_bin op_mulW (v_I _ _) (se_call (bb := true) G_l_dig hg0 (hr.mono (by decide)) (by rfl) T.g_l_dig T.F_l_dig.kp T.b_l_dig (sc_slt (j := 0) (pv 0) (sc_val (se_bin op_addV v_add (se_v0 (i := 2) (pv 2) rfl) se_int) sc_nil))) (se_callTy call_int1 v_int (by rfl) T.z_int (by decide +kernel) (sa_cons (se_cmp op_gtV (v_cmp _ _) (se_callB call_lenV v_len (by rfl) T.z_len (by decide +kernel) (sa_cons (se_v0 (i := 1) (pv 1) rfl) sa_nil)) se_int (by rfl)) sa_nil))) sa_nil)) (ss_cons (ms1 := [1, 0, 0, 1, 0, 0, 0, 0, 0, 0]) (ss_setLc0 (own := [("_law_member", 9)]) (t := (.nm 9)) (i := 6) 0 tg_name rfl nd rfl rfl (sw_true rfl rfl rfl (by decide +kernel)) (si_keys (se_v0 (i := 1) (pv 1) rfl)) (blkOk_by (own := [("_law_member", 9)]) (N := ["_law_stock_here", "_law_members", "_law_most", "_law_found", "_law_style", "_law_turn", "_law_others", "_law_after", "_law_chosen", "_law_member"]) (sc := defScope s_l_history) (by decide +kernel)) (fun _ _ _ _ _ => (pg_name (i := 9) nd rfl (by first | exact .inl rfl | exact .inr rfl))) (fun _ _ _ _ _ => (st_one (st_cmp ((PD.op_neV hu64).or (op_neDD hu64)) v_neX (se_v0 (i := 9) (pv 9) rfl) (se_sub hu (se_v (i := 3) (pv 3) rfl) (se_un un_neg v_neg se_int) (fun _ _ => rfl)) (by rfl)))) (fun _ _ _ _ _ => (se_v0 (i := 9) (pv 9) rfl)))
    (ss_cons (ms1 := [1, 0, 0, 1, 0, 0, 0, 0, 0, 0]) (ss_set (i := 7) (m := 0) nd rfl (by first | exact .inl rfl | exact .inr rfl) (se_frz (se_cat (se_lc (own := [("_law_member", 9)]) (t := (.nm 9)) 0 tg_name rfl nd (si_keys (se_v0 (i := 6) (pv 6) rfl)) (blkOk_by (own := [("_law_member", 9)]) (N := ["_law_stock_here", "_law_members", "_law_most", "_law_found", "_law_style", "_law_turn", "_law_others", "_law_after", "_law_chosen", "_law_member"]) (sc := defScope s_l_history) (by decide +kernel)) (fun _ _ _ _ _ => (pg_name (i := 9) nd rfl (by first | exact .inl rfl | exact .inr rfl))) (fun _ _ _ _ _ => (st_one (st_cmp op_gtV (v_cmp _ _) (se_v0 (i := 9) (pv 9) rfl) (se_sub hu (se_v (i := 3) (pv 3) rfl) (se_un un_neg v_neg se_int) (fun _ _ => rfl)) (by rfl)))) (fun _ _ _ _ _ => (se_v0 (i := 9) (pv 9) rfl))) (se_v0 (i := 6) (pv 6) rfl))))
    (ss_cons (ms1 := [1, 0, 0, 1, 0, 0, 0, 0, 0, 0]) (ss_set (i := 8) (m := 0) nd rfl (by first | exact .inl rfl | exact .inr rfl) (se_sub hu (se_lst 0 (sa_cons (se_sub hu (se_v0 (i := 6) (pv 6) rfl) (se_call (bb := true) G_l_dig hg0 (hr.mono (by decide)) (by rfl) T.g_l_dig T.F_l_dig.kp T.b_l_dig (sc_slt (j := 0) (pv 0) (sc_val (se_callB call_lenV v_len (by rfl) T.z_len (by decide +kernel) (sa_cons (se_v0 (i := 6) (pv 6) rfl) sa_nil)) sc_nil))) (fun _ _ => rfl)) (sa_cons (se_sub hu (se_sl (se_v (i := 3) (pv 3) rfl) (so_some (se_un un_neg v_neg se_int)) so_none) se_int (fun _ _ => rfl)) (sa_cons (se_sub hu (se_v0 (i := 7) (pv 7) rfl) se_int (fun _ _ => rfl)) sa_nil)))) (se_v0 (i := 4) (pv 4) rfl) (fun _ _ => rfl)))
    (ss_cons (ms1 := [1, 0, 0, 1, 0, 0, 0, 0, 0, 0]) (ss_if (PW.pt (sw_or (st_cmp ((PD.op_eqV hu64).or (op_eqDD hu64)) v_eqX (se_v0 (i := 8) (pv 8) rfl) (se_sub hu (se_v (i := 3) (pv 3) rfl) (se_un un_neg v_neg se_int) (fun _ _ => rfl)) (by rfl)) (sw_or1 (st_cmp ((PD.op_eqV hu64).or (op_eqDD hu64)) v_eqX (se_call (bb := true) G_l_dig hg0 (hr.mono (by decide)) (by rfl) T.g_l_dig T.F_l_dig.kp T.b_l_dig (sc_slt (j := 0) (pv 0) (sc_val se_int sc_nil))) se_int (by rfl))))) (ss_one (ss_set (i := 8) (m := 0) nd rfl (by first | exact .inl rfl | exact .inr rfl) (se_sub hu (se_v0 (i := 6) (pv 6) rfl) (se_call (bb := true) G_l_dig hg0 (hr.mono (by decide)) (by rfl) T.g_l_dig T.F_l_dig.kp T.b_l_dig (sc_slt (j := 0) (pv 0) (sc_val (se_callB call_lenV v_len (by rfl) T.z_len (by decide +kernel) (sa_cons (se_v0 (i := 6) (pv 6) rfl) sa_nil)) sc_nil))) (fun _ _ => rfl)))) ss_nil)
    (ss_one (ss_expr (se_lm (i := 3) PySem.F.slot_list_append PySem.F.type_list_append mt_append vm_app (pv 3) (sa_cons (se_v0 (i := 8) (pv 8) rfl) sa_nil))))))))))
    (ss_one (ss_ret (se_v0 (i := 3) (pv 3) rfl)))))⟩
/-! law: 0:_law_script 1:_law_k 2:_law_stock_here 3:_law_members 4:_law_history_here 5:_law_last 6:_law_lists 7:_law_counts 8:_law_every 9:_law_member 10:_law_turns 11:_law_given 12:_law_received 13:_law_letter 14:_law_turn 15:_law_pair -/
def sg_law : Sg := ⟨[0], 0⟩
def b_law : DS := (seq (sFor (.nm 1) (rngE (consA (dN gMax2 (consA (dC (.int 1)) (consA (dN gMin2 (consA (dC (.int 2)) (consA (dN gLen (consA (dV 0) nilA)) nilA))) nilA))) nilA)) (seq (sSet 2 (dCall m_l_stock [.val (.own 0), .val (.own 0)] sg_l_stock true (consA (dV 0) (consA (dV 1) nilA))))
  (seq (sSet 3 (dLc (itE (dSl (dC (.str "abcdefghijkl")) oNone (oSome (d2 gAdd (dC (.int 6)) (dCall m_l_dig [.slt 2, .val (.own 0)] sg_l_dig true (consS 2 (consA (dC (.int 7)) nilA))))))) (.nm 13) bYes (d2 gAdd (dC (.str "n")) (dV 13)) [13]))
  (seq (sSet 4 (dCall m_l_history [.slt 2, .val (.own 0), .val (.own 0)] sg_l_history true (consS 2 (consA (dV 3) (consA (dC (.int 149)) nilA)))))
  (seq (whl (bT (d2 gLt (dN gLen (consA (dV 4) nilA)) (dC (.int 61)))) (seq (sSet 5 (d2 gSub (dV 4) (d1 gNeg (dC (.int 1)))))
  (sSet 4 (d2 gCat (dV 4) (dLc (itKE (dV 3)) (.nm 9) (bT (d2 gNeX (dV 9) (dV 5))) (dV 9) [9])))) 1000000)
  (seq (sIf (bNot (bT (dCall m_is_history [.val (.own 0), .val (.own 0)] sg_is_history true (consA (dV 3) (consA (dV 4) nilA))))) (sRet (dC (.bl false))) skip)
  (seq (sPar [6, 7, 8] (consA (dCall m_lists_of [.val (.own 0), .val (.own 0)] sg_lists_of true (consA (dV 3) (consA (dV 4) nilA))) (consA (dCall m_handovers_of [.val (.own 0), .val (.own 0)] sg_handovers_of true (consA (dV 3) (consA (dV 4) nilA))) (consA (dN gLst nilA) nilA))))
  (seq (sFor (.nm 9) (itKE (dV 3)) (seq (sSet 10 (dCall m_turns_of [.val (.own 0), .val (.own 0), .val (.own 0)] sg_turns_of true (consA (dV 3) (consA (dV 4) (consA (dV 9) nilA)))))
  (seq (sSet 8 (d2 gCat (dV 8) (dV 10)))
  (seq (sIf (bT (d2 gNeX (d2 gSub (dV 6) (dV 9)) (dLc (itKE (dV 10)) (.nm 14) (bT (d2 gGt (dV 14) (dC (.int 0)))) (d2 gSub (dV 4) (d2 gSubI (dV 14) (dC (.int 1)))) [14]))) (sRet (dC (.bl false))) skip)
  (seq (sSet 11 (dN gSum (consA (dLc (itKE (dV 7)) (.nm 15) (bT (d2 gEqX (d2 gSub (dV 15) (dC (.int 0))) (dV 9))) (d2 gSub (dV 7) (dV 15)) [15]) nilA)))
  (seq (sSet 12 (dN gSum (consA (dLc (itKE (dV 7)) (.nm 15) (bT (d2 gEqX (d2 gSub (dV 15) (dC (.int 1))) (dV 9))) (d2 gSub (dV 7) (dV 15)) [15]) nilA)))
  (seq (sIf (bT (d2 gNeX (dV 12) (dN gLen (consA (d2 gSub (dV 6) (dV 9)) nilA)))) (sRet (dC (.bl false))) skip)
  (sIf (bT (d2 gNeX (dV 11) (d2 gSubI (dN gLen (consA (dV 10) nilA)) (dN gInt (consA (d2 gEqX (d2 gSub (dV 4) (d1 gNeg (dC (.int 1)))) (dV 9)) nilA))))) (sRet (dC (.bl false))) skip))))))))
  (sIf (bT (d2 gNeX (dN (one1 sortVI) (consA (dV 8) nilA)) (d1 gRngL (dN gLen (consA (dV 4) nilA))))) (sRet (dC (.bl false))) skip)))))))))
  (sRet (dC (.bl true))))
def m_law : FD := semD b_law sg_law 16
theorem pd_law (T : Txt K mg) : FnG P wo K mg base 7 T.f_law T.fd_law ["_law_script"] (spD K CA sg_law m_law) := by
  have G_l_stock : FnG P wo K mg base 1 T.f_l_stock T.fd_l_stock ["_law_script", "_law_k"] (spD K CA sg_l_stock m_l_stock) := pd_l_stock T
  have G_l_dig : FnG P wo K mg base 1 T.f_l_dig T.fd_l_dig ["_law_stock_here", "_law_size"] (spD K CA sg_l_dig m_l_dig) := pd_l_dig T
  have G_l_history : FnG P wo K mg base 2 T.f_l_history T.fd_l_history ["_law_stock_here", "_law_members", "_law_most"] (spD K CA sg_l_history m_l_history) := pd_l_history T
  have G_is_history : FnG P wo K mg base 4 T.f_is_history T.fd_is_history ["members", "value"] (spD K CA sg_is_history m_is_history) := pd_is_history T
  have G_lists_of : FnG P wo K mg base 6 T.f_lists_of T.fd_lists_of ["members", "history"] (spD K CA sg_lists_of m_lists_of) := pd_lists_of T
  have G_handovers_of : FnG P wo K mg base 6 T.f_handovers_of T.fd_handovers_of ["members", "history"] (spD K CA sg_handovers_of m_handovers_of) := pd_handovers_of T
  have G_turns_of : FnG P wo K mg base 6 T.f_turns_of T.fd_turns_of ["members", "history", "member"] (spD K CA sg_turns_of m_turns_of) := pd_turns_of T
  have nd := sc_law.nd
  refine fnD [0, 0, 1, 0, 0, 0, 0, 0, 0, 0, 0, 0, 0, 0, 0, 0] T.F_law sc_law rfl (by decide) (by decide) (fun cd A outer s H E pw hg hr => ?_)
  have hg0 : (Around.guards A) = some [] := hg
  have hu := hu_of hr
  have hu64 : Around.units _ + 64 < cLine := hr.units
  exact ⟨_, (ss_cons (ms1 := [0, 0, 0, 0, 0, 0, 0, 0, 0, 0, 0, 0, 0, 0, 0, 0]) (ss_frzN 2 (ss_for tg_name (pg_name (i := 1) nd rfl (by first | exact .inl rfl | exact .inr rfl)) PassesOwn.never rfl (si_range1 (by rfl) T.z_range (sa_cons (se_callB (call_max2 rfl) v_max2 (by rfl) T.z_max (by decide +kernel) (sa_cons se_int (sa_cons (se_callB (call_min2 rfl) v_min2 (by rfl) T.z_min (by decide +kernel) (sa_cons se_int (sa_cons (se_callB call_lenV v_len (by rfl) T.z_len (by decide +kernel) (sa_cons (se_v0 (i := 0) (pv 0) rfl) sa_nil)) sa_nil))) sa_nil))) sa_nil)) (ss_cons (ms1 := [0, 0, 1, 0, 0, 0, 0, 0, 0, 0, 0, 0, 0, 0, 0, 0]) (ss_set (i := 2) (m := 1) nd rfl (by first | exact .inl rfl | exact .inr rfl) (se_call (bb := true) G_l_stock hg0 (hr.mono (by decide)) (by rfl) T.g_l_stock T.F_l_stock.kp T.b_l_stock (sc_val (se_v0 (i := 0) (pv 0) rfl) (sc_val (se_v0 (i := 1) (pv 1) rfl) sc_nil))))
    (ss_cons (ms1 := [0, 0, 1, 0, 0, 0, 0, 0, 0, 0, 0, 0, 0, 0, 0, 0]) (ss_setLc0 (own := [("_law_letter", 13)]) (t := (.nm 13)) (i := 3) 0 tg_name rfl nd rfl rfl (sw_true rfl rfl rfl (by decide +kernel)) (si_seq (se_sl se_str so_none (so_some (se_bin op_addV v_add se_int (se_call (bb := true) G_l_dig hg0 (hr.mono (by decide)) (by rfl) T.g_l_dig T.F_l_dig.kp T.b_l_dig (sc_slt (j := 2) (pv 2) (sc_val se_int sc_nil))))))) (blkOk_by (own := [("_law_letter", 13)]) (N := ["_law_script", "_law_k", "_law_stock_here", "_law_members", "_law_history_here", "_law_last", "_law_lists", "_law_counts", "_law_every", "_law_member", "_law_turns", "_law_given", "_law_received", "_law_letter", "_law_turn", "_law_pair"]) (sc := defScope s_law) (by decide +kernel)) (fun _ _ _ _ _ => (pg_name (i := 13) nd rfl (by first | exact .inl rfl | exact .inr rfl))) (fun _ _ _ _ _ => st_yes) (fun _ _ _ _ _ => (se_bin op_addV v_add se_str (se_v0 (i := 13) (pv 13) rfl))))
    (ss_cons (ms1 := [0, 0, 1, 0, 0, 0, 0, 0, 0, 0, 0, 0, 0, 0, 0, 0]) (ss_set (i := 4) (m := 0) nd rfl (by first | exact .inl rfl | exact .inr rfl) (se_call (bb := true) G_l_history hg0 (hr.mono (by decide)) (by rfl) T.g_l_history T.F_l_history.kp T.b_l_history (sc_slt (j := 2) (pv 2) (sc_val (se_v0 (i := 3) (pv 3) rfl) (sc_val se_int sc_nil)))))
    (ss_cons (ms1 := [0, 0, 1, 0, 0, 0, 0, 0, 0, 0, 0, 0, 0, 0, 0, 0]) (ss_while 1000000 PassesOwn.never (st_cmp op_ltV (v_cmp _ _) (se_callB call_lenV v_len (by rfl) T.z_len (by decide +kernel) (sa_cons (se_v0 (i := 4) (pv 4) rfl) sa_nil)) se_int (by rfl)) (ss_cons (ms1 := [0, 0, 1, 0, 0, 0, 0, 0, 0, 0, 0, 0, 0, 0, 0, 0]) (ss_set (i := 5) (m := 0) nd rfl (by first | exact .inl rfl | exact .inr rfl) (se_sub hu (se_v0 (i := 4) (pv 4) rfl) (se_un un_neg v_neg se_int) (fun _ _ => rfl)))
    (ss_one (ss_set (i := 4) (m := 0) nd rfl (by first | exact .inl rfl | exact .inr rfl) (se_frz (se_cat (se_v0 (i := 4) (pv 4) rfl) (se_lc (own := [("_law_member", 9)]) (t := (.nm 9)) 0 tg_name rfl nd (si_keys (se_v0 (i := 3) (pv 3) rfl)) (blkOk_by (own := [("_law_member", 9)]) (N := ["_law_script", "_law_k", "_law_stock_here", "_law_members", "_law_history_here", "_law_last", "_law_lists", "_law_counts", "_law_every", "_law_member", "_law_turns", "_law_given", "_law_received", "_law_letter", "_law_turn", "_law_pair"]) (sc := defScope s_law) (by decide +kernel)) (fun _ _ _ _ _ => (pg_name (i := 9) nd rfl (by first | exact .inl rfl | exact .inr rfl))) (fun _ _ _ _ _ => (st_one (st_cmp ((PD.op_neV hu64).or (op_neDD hu64)) v_neX (se_v0 (i := 9) (pv 9) rfl) (se_v0 (i := 5) (pv 5) rfl) (by rfl)))) (fun _ _ _ _ _ => (se_v0 (i := 9) (pv 9) rfl)))))))))
    (ss_cons (ms1 := [0, 0, 1, 0, 0, 0, 0, 0, 0, 0, 0, 0, 0, 0, 0, 0]) (ss_if (st_not (st_val (se_call (bb := true) G_is_history hg0 (hr.mono (by decide)) (by rfl) T.g_is_history T.F_is_history.kp T.b_is_history (sc_val (se_v0 (i := 3) (pv 3) rfl) (sc_val (se_v0 (i := 4) (pv 4) rfl) sc_nil))))) (ss_one (ss_ret se_bl)) ss_nil)
    (ss_cons (ms1 := [0, 0, 1, 0, 0, 0, 0, 0, 0, 0, 0, 0, 0, 0, 0, 0]) (ss_parT (is := [6, 7, 8]) (mm := [0, 0, 0]) (tg_tup (semN_cons (i := 6) (semN_cons (i := 7) (semN_cons (i := 8) semN_nil)))) (pg_tup rfl (pgs_cons (pg_name (i := 6) nd rfl (by first | exact .inl rfl | exact .inr rfl)) (pgs_cons (pg_name (i := 7) nd rfl (by first | exact .inl rfl | exact .inr rfl)) (pgs_cons (pg_name (i := 8) nd rfl (by first | exact .inl rfl | exact .inr rfl)) pgs_nil)))) (sa_cons (se_call (bb := true) G_lists_of hg0 (hr.mono (by decide)) (by rfl) T.g_lists_of T.F_lists_of.kp T.b_lists_of (sc_val (se_v0 (i := 3) (pv 3) rfl) (sc_val (se_v0 (i := 4) (pv 4) rfl) sc_nil))) (sa_cons (se_call (bb := true) G_handovers_of hg0 (hr.mono (by decide)) (by rfl) T.g_handovers_of T.F_handovers_of.kp T.b_handovers_of (sc_val (se_v0 (i := 3) (pv 3) rfl) (sc_val (se_v0 (i := 4) (pv 4) rfl) sc_nil))) (sa_cons (se_frz (se_lst 0 sa_nil)) sa_nil))))
    (ss_cons (ms1 := [0, 0, 1, 0, 0, 0, 0, 0, 0, 0, 0, 0, 0, 0, 0, 0]) (ss_for tg_name (pg_name (i := 9) nd rfl (by first | exact .inl rfl | exact .inr rfl)) PassesOwn.never rfl (si_keys (se_v0 (i := 3) (pv 3) rfl)) (ss_cons (ms1 := [0, 0, 1, 0, 0, 0, 0, 0, 0, 0, 0, 0, 0, 0, 0, 0]) (ss_set (i := 10) (m := 0) nd rfl (by first | exact .inl rfl | exact .inr rfl) (se_call (bb := true) G_turns_of hg0 (hr.mono (by decide)) (by rfl) T.g_turns_of T.F_turns_of.kp T.b_turns_of (sc_val (se_v0 (i := 3) (pv 3) rfl) (sc_val (se_v0 (i := 4) (pv 4) rfl) (sc_val (se_v0 (i := 9) (pv 9) rfl) sc_nil)))))
    (ss_cons (ms1 := [0, 0, 1, 0, 0, 0, 0, 0, 0, 0, 0, 0, 0, 0, 0, 0]) (ss_set (i := 8) (m := 0) nd rfl (by first | exact .inl rfl | exact .inr rfl) (se_frz (se_cat (se_v0 (i := 8) (pv 8) rfl) (se_v0 (i := 10) (pv 10) rfl))))
    (ss_cons (ms1 := [0, 0, 1, 0, 0, 0, 0, 0, 0, 0, 0, 0, 0, 0, 0, 0]) (ss_if (st_cmp ((PD.op_neV hu64).or (op_neDD hu64)) v_neX (se_sub hu (se_v0 (i := 6) (pv 6) rfl) (se_v0 (i := 9) (pv 9) rfl) (fun _ _ => rfl)) (se_lc (own := [("_law_turn", 14)]) (t := (.nm 14)) 0 tg_name rfl nd (si_keys (se_v0 (i := 10) (pv 10) rfl)) (blkOk_by (own := [("_law_turn", 14)]) (N := ["_law_script", "_law_k", "_law_stock_here", "_law_members", "_law_history_here", "_law_last", "_law_lists", "_law_counts", "_law_every", "_law_member", "_law_turns", "_law_given", "_law_received", "_law_letter", "_law_turn", "_law_pair"]) (sc := defScope s_law) (by decide +kernel)) (fun _ _ _ _ _ => (pg_name (i := 14) nd rfl (by first | exact .inl rfl | exact .inr rfl))) (fun _ _ _ _ _ => (st_one (st_cmp op_gtV (v_cmp _ _) (se_v0 (i := 14) (pv 14) rfl) se_int (by rfl)))) (fun _ _ _ _ _ => (se_sub hu (se_v0 (i := 4) (pv 4) rfl) (se_bin op_sub (v_I0 _) (se_v0 (i := 14) (pv 14) rfl) se_int) (fun _ _ => rfl)))) (by rfl)) (ss_one (ss_ret se_bl)) ss_nil)
    (ss_cons (ms1 := [0, 0, 1, 0, 0, 0, 0, 0, 0, 0, 0, 0, 0, 0, 0, 0]) (ss_set (i := 11) (m := 0) nd rfl (by first | exact .inl rfl | exact .inr rfl) (se_callB (cr_sum rfl) v_sum (by rfl) T.z_sum (by decide +kernel) (sa_cons (se_lc (own := [("_law_pair", 15)]) (t := (.nm 15)) 0 tg_name rfl nd (si_keys (se_v0 (i := 7) (pv 7) rfl)) (blkOk_by (own := [("_law_pair", 15)]) (N := ["_law_script", "_law_k", "_law_stock_here", "_law_members", "_law_history_here", "_law_last", "_law_lists", "_law_counts", "_law_every", "_law_member", "_law_turns", "_law_given", "_law_received", "_law_letter", "_law_turn", "_law_pair"]) (sc := defScope s_law) (by decide +kernel)) (fun _ _ _ _ _ => (pg_name (i := 15) nd rfl (by first | exact .inl rfl | exact .inr rfl))) (fun _ _ _ _ _ => (st_one (st_cmp ((PD.op_eqV hu64).or (op_eqDD hu64)) v_eqX (se_sub hu (se_v0 (i := 15) (pv 15) rfl) se_int (fun _ _ => rfl)) (se_v0 (i := 9) (pv 9) rfl) (by rfl)))) (fun _ _ _ _ _ => (se_sub hu (se_v0 (i := 7) (pv 7) rfl) (se_v0 (i := 15) (pv 15) rfl) (fun _ _ => rfl)))) sa_nil)))
    (ss_cons (ms1 := [0, 0, 1, 0, 0, 0, 0, 0, 0, 0, 0, 0, 0, 0, 0, 0]) (ss_set (i := 12) (m := 0) nd rfl (by first | exact .inl rfl | exact .inr rfl) (se_callB (cr_sum rfl) v_sum (by rfl) T.z_sum (by decide +kernel) (sa_cons (se_lc (own := [("_law_pair", 15)]) (t := (.nm 15)) 0 tg_name rfl nd (si_keys (se_v0 (i := 7) (pv 7) rfl)) (blkOk_by (own := [("_law_pair", 15)]) (N := ["_law_script", "_law_k", "_law_stock_here", "_law_members", "_law_history_here", "_law_last", "_law_lists", "_law_counts", "_law_every", "_law_member", "_law_turns", "_law_given", "_law_received", "_law_letter", "_law_turn", "_law_pair"]) (sc := defScope s_law) (by decide +kernel)) (fun _ _ _ _ _ => (pg_name (i := 15) nd rfl (by first | exact .inl rfl | exact .inr rfl))) (fun _ _ _ _ _ => (st_one (st_cmp ((PD.op_eqV hu64).or (op_eqDD hu64)) v_eqX (se_sub hu (se_v0 (i := 15) (pv 15) rfl) se_int (fun _ _ => rfl)) (se_v0 (i := 9) (pv 9) rfl) (by rfl)))) (fun _ _ _ _ _ => (se_sub hu (se_v0 (i := 7) (pv 7) rfl) (se_v0 (i := 15) (pv 15) rfl) (fun _ _ => rfl)))) sa_nil)))
    (ss_cons (ms1 := [0, 0, 1, 0, 0, 0, 0, 0, 0, 0, 0, 0, 0, 0, 0, 0]) (ss_if (st_cmp ((PD.op_neV hu64).or (op_neDD hu64)) v_neX (se_v0 (i := 12) (pv 12) rfl) (se_callB call_lenV v_len (by rfl) T.z_len (by decide +kernel) (sa_cons (se_sub hu (se_v0 (i := 6) (pv 6) rfl) (se_v0 (i := 9) (pv 9) rfl) (fun _ _ => rfl)) sa_nil)) (by rfl)) (ss_one (ss_ret se_bl)) ss_nil)
    (ss_one (ss_if (st_cmp ((PD.op_neV hu64).or (op_neDD hu64)) v_neX (se_v0 (i := 11) (pv 11) rfl) (se_bin op_sub (v_I0 _) (se_callB call_lenV v_len (by rfl) T.z_len (by decide +kernel) (sa_cons (se_v0 (i := 10) (pv 10) rfl) sa_nil)) (se_callTy call_int1 v_int (by rfl) T.z_int (by decide +kernel) (sa_cons (se_cmp ((PD.op_eqV hu64).or (op_eqDD hu64)) v_eqX (se_sub hu (se_v0 (i := 4) (pv 4) rfl) (se_un un_neg v_neg se_int) (fun _ _ => rfl)) (se_v0 (i := 9) (pv 9) rfl) (by rfl)) sa_nil))) (by rfl)) (ss_one (ss_ret se_bl)) ss_nil)))))))))
    (ss_one (ss_if (st_cmp ((PD.op_neV hu64).or (op_neDD hu64)) v_neX (se_sortedI rfl (by rfl) T.z_sorted (sa_cons (se_v0 (i := 8) (pv 8) rfl) sa_nil)) (se_listRng (by rfl) T.z_list (by rfl) T.z_range (se_callB call_lenV v_len (by rfl) T.z_len (by decide +kernel) (sa_cons (se_v0 (i := 4) (pv 4) rfl) sa_nil))) (by rfl)) (ss_one (ss_ret se_bl)) ss_nil)))))))))))
    (ss_one (ss_ret se_bl)))⟩
end
/-! ### the draws (k01..k06) -/
def Tn (t : D) (n : Nat) : Prop := ∃ b0 b1 b2 : Int, t = .lst [.int b0, .int b1, .int b2] ∧ 0 ≤ b1 ∧ b1 < 2 ^ 160 ∧ 0 ≤ b2 ∧ b2 ≤ n
theorem Tn.mono {t : D} {n m : Nat} (h : Tn t n) (hn : n ≤ m) : Tn t m := by
  obtain ⟨b0, b1, b2, e, h1, h2, h3, h4⟩ := h
  exact ⟨b0, b1, b2, e, h1, h2, h3, by omega⟩
theorem ok_dig {t : D} {m : Int} {n : Nat} (h : Tn t n) (m1 : 1 ≤ m) (m2 : m ≤ 1000000) (hn : n ≤ 1000000000) : Wf m_l_dig [t, .int m] fun r ds => ∃ k : Nat, r = .int k ∧ (k : Int) < m ∧ ∃ t', ds = [t', .int m] ∧ Tn t' (n + 1) := by
  obtain ⟨b0, b1, b2, rfl, h1, h2, h3, h4⟩ := h
  refine wf_sem ?_
  show Ws b_l_dig [some _, some _, none, none] _ _ _ _
  unfold b_l_dig
  simp (config := { maxSteps := 3000000 }) only [wp_dC, wp_dV, wp_d1, wp_d2, wp_nilA, wp_consA, wp_dN, wp_bT, wp_bNot, wp_bAnd, wp_bOr, wp_bYes, wp_dIf, wp_dNot, wp_dAnd, wp_dOr, wp_dChain, wp_oNone, wp_oSome, wp_dSl, wp_dUp, wp_itE, wp_itKE, wp_itemsE, wp_valsE, wp_rngE, wp_zipE, wp_dCall, wp_consS, wp_dLm, ws_skip, ws_seq, ws_sSet, ws_sIf, ws_sRet, ws_sExpr, ws_sPar, ws_sAsg, ws_sSto, ws_stoV, ws_bk, ws_ct, List.getElem?_cons_zero, List.getElem?_cons_succ, List.set_cons_zero, List.set_cons_succ, Option.some.injEq, exists_eq_left', exists_eq_left, fillA, backA, List.headD_cons, List.tail_cons, Option.map_some, setL, asgT, true_or, true_and, List.length_cons, List.length_nil, exists_eq', exists_const, gx_lst, gx_tup, gx_add, gx_sub, gx_lt, gx_le, gx_gt, gx_ge, gx_len, gx_lenD, gx_lenS, gx_neg, gx_list, gx_eqI, gx_neI, gx_eqS, gx_neS, gx_itL, gx_itl, gx_itD, gx_items, D.bl.injEq, D.int.injEq, D.lst.injEq, D.tup.injEq, D.dct.injEq, D.str.injEq, and_true, Bool.not_true, Bool.not_false, Bool.false_eq_true, Bool.true_eq_false, if_true, if_false, Bool.not_eq_true', decide_eq_true_eq, decide_eq_false_iff_not, wipeE, not_false_eq_true, wp_dRm, gx_ty, gx_isi, ii_s, ii_l, ii_d, Option.map_some, not_true_eq_false, ws_sSwp, gx_eqIX, gx_neIX, gx_eqSX, gx_neSX, gx_listW, wp_dLmP, ws_sSAug, ws_sSto2, wp_nilP, wp_consP, wp_dDisp0]
  have ex : ∀ z : Int, 0 ≤ z % m → ∃ k : Nat, D.int (z % m) = .int k ∧ (k : Int) < m := fun z hz => ⟨(z % m).toNat, by rw [Int.toNat_of_nonneg hz], by rw [Int.toNat_of_nonneg hz]; exact Int.emod_lt_of_pos _ (by omega)⟩
  refine ⟨_, rfl, _, rfl, _, rfl, ?_⟩
  split
  · obtain ⟨k, e1, e2⟩ := ex b0 (Int.emod_nonneg _ (by omega))
    exact ⟨_, rfl, _, gI_is (show (0 : Int) < m by omega), _, rfl, _, gI_is (show CDivW b0 m from ⟨by omega, by
      have : m.natAbs.log2 ≤ 20 := by
        by_cases z : m.natAbs = 0
        · rw [z]; decide
        · have := (Nat.log2_lt z (k := 21)).mpr (by omega); omega
      omega⟩), _, rfl, by rfl, k, e1, e2, _, rfl, _, b1, b2, rfl, h1, h2, h3, by omega⟩
  · have c4 : (b2 + 1).natAbs < 2 ^ 40 := by omega
    have c5 : (b1 + 1500450271 * (b2 + 1)).natAbs < 2 ^ 164 := by omega
    have hp : (0 : Int) < 10 ^ (41 : Int).toNat + 37 := by decide +kernel
    have hp2 : (10 ^ (41 : Int).toNat + 37 : Int) < 2 ^ 142 := by decide +kernel
    have hp3 : (0 : Int) < 10 ^ (43 : Int).toNat + 57 := by decide +kernel
    have e1 := Int.emod_nonneg ((b1 + 1500450271 * (b2 + 1)) ^ (3 : Int).toNat) (show (10 ^ (41 : Int).toNat + 37 : Int) ≠ 0 by omega)
    have e2 := Int.lt_trans (Int.emod_lt_of_pos ((b1 + 1500450271 * (b2 + 1)) ^ (3 : Int).toNat) hp) hp2
    have c6 : ∀ g1 : Int, 0 ≤ g1 → g1 < 2 ^ 142 → CMulW g1 g1 := fun g1 w1 w2 => wide_mul (a := 142) (b := 142) (by omega) (by omega) (by decide) (by decide) (by decide)
    refine ⟨_, rfl, _, rfl, _, rfl, _, rfl, _, rfl, _, gI_is (wide_mul (a := 40) (b := 40) (by decide) c4 (by decide) (by decide) (by decide)), _, rfl, _, gI_is (pow3_ok c5 (by decide)), _, gI_is (by decide +kernel), _, rfl, _, gI_is hp, ?_⟩
    refine ⟨_, gI_is (c6 _ e1 e2), _, rfl, _, gI_is (wide_mul (a := 40) (b := 40) (by decide) c4 (by decide) (by decide) (by decide)), _, rfl, _, gI_is (by decide +kernel), _, rfl, _, gI_is hp3, ?_⟩
    refine ⟨_, gI_is (show CDivW _ 393241 from ⟨by decide, by decide⟩), _, gI_is (show (0 : Int) < m by omega), by rfl, ?_⟩
    obtain ⟨k, e3, e4⟩ := ex _ (Int.emod_nonneg _ (by omega))
    exact ⟨k, e3, e4, _, rfl, b0, b1, b2 + 1, rfl, h1, h2, by omega, by omega⟩
theorem ok_stock {ns : List Int} {k : Nat} (hk : k ≤ 63) : Wf m_l_stock [.scr ns, .int k] fun r ds => Tn r 0 ∧ ds = [.scr ns, .int k] := by
  refine wf_sem ?_
  show Ws b_l_stock [some _, some _, none] _ _ _ _
  unfold b_l_stock
  simp (config := { maxSteps := 3000000 }) only [wp_dC, wp_dV, wp_d1, wp_d2, wp_nilA, wp_consA, wp_dN, wp_bT, wp_bNot, wp_bAnd, wp_bOr, wp_bYes, wp_dIf, wp_dNot, wp_dAnd, wp_dOr, wp_dChain, wp_oNone, wp_oSome, wp_dSl, wp_dUp, wp_itE, wp_itKE, wp_itemsE, wp_valsE, wp_rngE, wp_zipE, wp_dCall, wp_consS, wp_dLm, ws_skip, ws_seq, ws_sSet, ws_sIf, ws_sRet, ws_sExpr, ws_sPar, ws_sAsg, ws_sSto, ws_stoV, ws_bk, ws_ct, List.getElem?_cons_zero, List.getElem?_cons_succ, List.set_cons_zero, List.set_cons_succ, Option.some.injEq, exists_eq_left', exists_eq_left, fillA, backA, List.headD_cons, List.tail_cons, Option.map_some, setL, asgT, true_or, true_and, List.length_cons, List.length_nil, exists_eq', exists_const, gx_lst, gx_tup, gx_add, gx_sub, gx_lt, gx_le, gx_gt, gx_ge, gx_len, gx_lenD, gx_lenS, gx_neg, gx_list, gx_eqI, gx_neI, gx_eqS, gx_neS, gx_itL, gx_itl, gx_itD, gx_items, D.bl.injEq, D.int.injEq, D.lst.injEq, D.tup.injEq, D.dct.injEq, D.str.injEq, and_true, Bool.not_true, Bool.not_false, Bool.false_eq_true, Bool.true_eq_false, if_true, if_false, Bool.not_eq_true', decide_eq_true_eq, decide_eq_false_iff_not, wipeE, not_false_eq_true, wp_dRm, gx_ty, gx_isi, ii_s, ii_l, ii_d, Option.map_some, not_true_eq_false, ws_sSwp, gx_eqIX, gx_neIX, gx_eqSX, gx_neSX, gx_listW, wp_dLmP, ws_sSAug, ws_sSto2, wp_nilP, wp_consP, wp_dDisp0]
  have hp : (0 : Int) < 10 ^ (42 : Int).toNat + 63 := by decide +kernel
  have go : ∀ c : Int, 0 ≤ c % (10 ^ (42 : Int).toNat + 63) ∧ c % (10 ^ (42 : Int).toNat + 63) < 2 ^ 142 := fun c => by
    have h1 := Int.emod_nonneg c (show (10 ^ (42 : Int).toNat + 63 : Int) ≠ 0 by omega)
    have h2 := Int.emod_lt_of_pos c hp
    have h3 : (10 ^ (42 : Int).toNat + 63 : Int) < 2 ^ 142 := by decide +kernel
    exact ⟨h1, Int.lt_trans h2 h3⟩
  have m1 : ∀ c : Int, CMulW (c % (10 ^ (42 : Int).toNat + 63)) 4096 := fun c => by
    have ⟨g1, g2⟩ := go c
    exact wide_mul (a := 142) (b := 14) (by omega) (by decide) (by decide) (by decide) (by decide)
  have m2 : CMulW 17 (k : Int) := wide_mul (a := 20) (b := 10) (by decide) (by omega) (by decide) (by decide) (by decide)
  have fin : ∀ a c : Int, Tn (.lst [.int a, .int (c % (10 ^ (42 : Int).toNat + 63) * 4096 + 17 * k + 1), .int 0]) 0 := fun a c => by
    have ⟨g1, g2⟩ := go c
    exact ⟨_, _, _, rfl, by omega, by omega, by omega, by omega⟩
  split
  · rename_i h
    have hl : k < ns.length := by omega
    exact ⟨_, show (atI ns k).map D.int = _ by rw [atI_is (List.getElem?_eq_getElem hl)]; rfl, _, gI_is (by decide +kernel), _, rfl, _, rfl, _, gI_is (by decide +kernel), _, rfl, _, gI_is hp, _, gI_is (m1 _), _, gI_is m2, _, rfl, _, rfl, by rfl, fin _ _, rfl⟩
  · exact ⟨_, gI_is (by decide +kernel), _, rfl, _, rfl, _, gI_is (by decide +kernel), _, rfl, _, gI_is hp, _, gI_is (m1 _), _, gI_is m2, _, rfl, _, rfl, by rfl, fin _ _, rfl⟩
/-! ### a drawn history (k01..k06) -/
theorem hs_snoc {p : List Str} {y x : Str} (h : Hs (p ++ [y])) (n : y ≠ x) : Hs (p ++ [y, x]) := by
  refine hs_of fun m g hg => ?_
  rw [gv_snoc] at hg
  rcases List.mem_append.mp hg with hg | hg
  · exact gv_ne h hg
  · split at hg
    · rename_i e
      rw [List.mem_singleton.mp hg, e]; exact n
    · cases hg
theorem flt_sD {ss : List Str} (p : Str → Bool) : ((sD ss).filter fun d => match d with | .str s => p s | _ => false).map id = sD (ss.filter p) := by
  rw [List.map_id, sD, List.filter_map]; rfl
theorem neg1 : gNeg (.int 1) = some (.int (-1)) := rfl
theorem neg2 : gNeg (.int 2) = some (.int (-2)) := rfl
theorem two_ex {ms : List Str} (nd : ms.Nodup) (h : 2 ≤ ms.length) (y : Str) : ∃ x ∈ ms, x ≠ y := by
  match ms, nd, h with
  | a :: b :: r, nd, _ =>
    by_cases e : a = y
    · refine ⟨b, List.mem_cons_of_mem _ List.mem_cons_self, fun z => ?_⟩
      exact (List.nodup_cons.mp nd).1 (by rw [e, ← z]; exact List.mem_cons_self)
    · exact ⟨a, List.mem_cons_self, e⟩
theorem idx_get {x : Str} : ∀ {ms : List Str}, x ∈ ms → ms[ms.idxOf x]? = some x
  | [], h => by cases h
  | a :: ms, h => by
    rw [List.idxOf_cons]
    by_cases e : a = x
    · rw [show (a == x) = true by simpa using e, e]; rfl
    · rw [show (a == x) = false by simpa using e]
      show (a :: ms)[ms.idxOf x + 1]? = _
      rw [List.getElem?_cons_succ]
      exact idx_get ((List.mem_cons.mp h).resolve_left fun z => e z.symm)
theorem cut_mk {ds : List D} {k : Nat} (hk : 0 < k) : gSl (.lst ds) (some (-(k : Int))) none = some (.lst (ds.drop (ds.length - k))) := by
  show some (D.lst (PD.cutD ds (some (-(k : Int))) none)) = _
  have hlo : HT.sIx ds.length 0 (some (-(k : Int))) = ds.length - k := by
    show (if (-(k : Int)) < 0 then ((-(k : Int)) + ((ds.length : Nat) : Int)).toNat else min (-(k : Int)).toNat ds.length) = _
    rw [if_pos (by omega)]; omega
  unfold PD.cutD
  rw [HT.sIx_none, hlo, List.take_of_length_le (by rw [List.length_drop]; omega)]

def HI (ms : List Str) (way : Nat) (many : D) (n j : Nat) (e : Ev) : Prop := ∃ t p y a5 a6 a7 a8, e = [some t, some (.lst (sD ms)), some many, some (.lst (sD (p ++ [y]))), some (.int (way : Nat)), a5, a6, a7, a8, none] ∧ Tn t (n + 10 * j) ∧ Hs (p ++ [y]) ∧ (∀ x ∈ p ++ [y], x ∈ ms) ∧ p.length = j
def bodyH : DS := (seq (sSet 6 (dLc (itKE (dV 1)) (.nm 9) (bT (d2 gNeX (dV 9) (d2 gSub (dV 3) (d1 gNeg (dC (.int 1)))))) (dV 9) [9]))
  (seq (sSet 7 (d2 gCat (dLc (itKE (dV 6)) (.nm 9) (bT (d2 gGt (dV 9) (d2 gSub (dV 3) (d1 gNeg (dC (.int 1)))))) (dV 9) [9]) (dV 6)))
  (seq (sSet 8 (d2 gSub (dN gLst (consA (d2 gSub (dV 6) (dCall m_l_dig [.slt 0, .val (.own 0)] sg_l_dig true (consS 0 (consA (dN gLen (consA (dV 6) nilA)) nilA)))) (consA (d2 gSub (dSl (dV 3) (oSome (d1 gNeg (dC (.int 2)))) oNone) (dC (.int 0))) (consA (d2 gSub (dV 7) (dC (.int 0))) nilA)))) (dV 4)))
  (seq (sIf (bOr (bT (d2 gEqX (dV 8) (d2 gSub (dV 3) (d1 gNeg (dC (.int 1)))))) (bT (d2 gEqX (dCall m_l_dig [.slt 0, .val (.own 0)] sg_l_dig true (consS 0 (consA (dC (.int 4)) nilA))) (dC (.int 0))))) (sSet 8 (d2 gSub (dV 6) (dCall m_l_dig [.slt 0, .val (.own 0)] sg_l_dig true (consS 0 (consA (dN gLen (consA (dV 6) nilA)) nilA))))) skip)
  (sExpr (dLm 3 fApp (consA (dV 8) nilA)))))))
theorem gx_gtS {a b : Str} : gGt (.str a) (.str b) = some (.bl (decide (b.cps.toList < a.cps.toList))) := rfl
theorem hi_step {ms : List Str} {way n j : Nat} {many d : D} {e : Ev} (hM : Mems ms) (h2 : 2 ≤ ms.length) (hw : way < 3) (hn : n + 10 * j ≤ 100000) (hj : j ≤ 1000) (h : HI ms way many n j e) : ∃ e1, asgT (.nm 5) d e = some e1 ∧ Ws bodyH e1 (HI ms way many n (j + 1)) (fun _ _ => False) (fun _ => False) (fun _ => False) := by
  obtain ⟨t, p, y, a5, a6, a7, a8, rfl, ht, hs, hm, hp⟩ := h
  have h12 := hM.le
  have zl : 2000 < sizeLine := by decide
  have em : (sD ms).length = ms.length := List.length_map ..
  have hy : y ∈ ms := hm y (List.mem_append_right _ List.mem_cons_self)
  refine ⟨_, rfl, ?_⟩
  unfold bodyH
  refine ws_seq.mpr (ws_sSet.mpr ?_)
  refine wp_dLcM2 (fun d => match d with | .str s => !decide (s = y) | _ => false) id (sD ms) [some t, some (.lst (sD ms)), some many, some (.lst (sD (p ++ [y]))), some (.int (way : Nat)), some d, a6, a7, a8, none] ?_ (by omega) ?_ ?_
  · simp (config := { maxSteps := 3000000 }) only [wp_dC, wp_dV, wp_d1, wp_d2, wp_nilA, wp_consA, wp_dN, wp_bT, wp_bNot, wp_bAnd, wp_bOr, wp_bYes, wp_dIf, wp_dNot, wp_dAnd, wp_dOr, wp_dChain, wp_oNone, wp_oSome, wp_dSl, wp_dUp, wp_itE, wp_itKE, wp_itemsE, wp_valsE, wp_rngE, wp_zipE, wp_dCall, wp_consS, wp_dLm, ws_skip, ws_seq, ws_sSet, ws_sIf, ws_sRet, ws_sExpr, ws_sPar, ws_sAsg, ws_sSto, ws_stoV, ws_bk, ws_ct, List.getElem?_cons_zero, List.getElem?_cons_succ, List.set_cons_zero, List.set_cons_succ, Option.some.injEq, exists_eq_left', exists_eq_left, fillA, backA, List.headD_cons, List.tail_cons, Option.map_some, setL, asgT, true_or, true_and, List.length_cons, List.length_nil, exists_eq', exists_const, gx_lst, gx_tup, gx_add, gx_sub, gx_lt, gx_le, gx_gt, gx_ge, gx_len, gx_lenD, gx_lenS, gx_neg, gx_list, gx_eqI, gx_neI, gx_eqS, gx_neS, gx_itL, gx_itl, gx_itD, gx_items, D.bl.injEq, D.int.injEq, D.lst.injEq, D.tup.injEq, D.dct.injEq, D.str.injEq, and_true, Bool.not_true, Bool.not_false, Bool.false_eq_true, Bool.true_eq_false, if_true, if_false, Bool.not_eq_true', decide_eq_true_eq, decide_eq_false_iff_not, wipeE, not_false_eq_true, wp_dRm, gx_ty, gx_isi, ii_s, ii_l, ii_d, Option.map_some, not_true_eq_false, ws_sSwp, gx_eqIX, gx_neIX, gx_eqSX, gx_neSX, gx_listW, wp_dLmP, ws_sSAug, ws_sSto2, wp_nilP, wp_consP, wp_dDisp0]
  · intro d hd
    obtain ⟨s, hs, rfl⟩ := List.mem_map.mp hd
    refine ⟨_, rfl, ?_⟩
    by_cases c : s = y
    · simp (config := { maxSteps := 3000000 }) only [wp_dC, wp_dV, wp_d1, wp_d2, wp_nilA, wp_consA, wp_dN, wp_bT, wp_bNot, wp_bAnd, wp_bOr, wp_bYes, wp_dIf, wp_dNot, wp_dAnd, wp_dOr, wp_dChain, wp_oNone, wp_oSome, wp_dSl, wp_dUp, wp_itE, wp_itKE, wp_itemsE, wp_valsE, wp_rngE, wp_zipE, wp_dCall, wp_consS, wp_dLm, ws_skip, ws_seq, ws_sSet, ws_sIf, ws_sRet, ws_sExpr, ws_sPar, ws_sAsg, ws_sSto, ws_stoV, ws_bk, ws_ct, List.getElem?_cons_zero, List.getElem?_cons_succ, List.set_cons_zero, List.set_cons_succ, Option.some.injEq, exists_eq_left', exists_eq_left, fillA, backA, List.headD_cons, List.tail_cons, Option.map_some, setL, asgT, true_or, true_and, List.length_cons, List.length_nil, exists_eq', exists_const, gx_lst, gx_tup, gx_add, gx_sub, gx_lt, gx_le, gx_gt, gx_ge, gx_len, gx_lenD, gx_lenS, gx_neg, gx_list, gx_eqI, gx_neI, gx_eqS, gx_neS, gx_itL, gx_itl, gx_itD, gx_items, D.bl.injEq, D.int.injEq, D.lst.injEq, D.tup.injEq, D.dct.injEq, D.str.injEq, and_true, Bool.not_true, Bool.not_false, Bool.false_eq_true, Bool.true_eq_false, if_true, if_false, Bool.not_eq_true', decide_eq_true_eq, decide_eq_false_iff_not, wipeE, not_false_eq_true, wp_dRm, gx_ty, gx_isi, ii_s, ii_l, ii_d, Option.map_some, not_true_eq_false, ws_sSwp, gx_eqIX, gx_neIX, gx_eqSX, gx_neSX, gx_listW, wp_dLmP, ws_sSAug, ws_sSto2, wp_nilP, wp_consP, wp_dDisp0, neg1, last_sD, c, decide_true]
    · simp (config := { maxSteps := 3000000 }) only [wp_dC, wp_dV, wp_d1, wp_d2, wp_nilA, wp_consA, wp_dN, wp_bT, wp_bNot, wp_bAnd, wp_bOr, wp_bYes, wp_dIf, wp_dNot, wp_dAnd, wp_dOr, wp_dChain, wp_oNone, wp_oSome, wp_dSl, wp_dUp, wp_itE, wp_itKE, wp_itemsE, wp_valsE, wp_rngE, wp_zipE, wp_dCall, wp_consS, wp_dLm, ws_skip, ws_seq, ws_sSet, ws_sIf, ws_sRet, ws_sExpr, ws_sPar, ws_sAsg, ws_sSto, ws_stoV, ws_bk, ws_ct, List.getElem?_cons_zero, List.getElem?_cons_succ, List.set_cons_zero, List.set_cons_succ, Option.some.injEq, exists_eq_left', exists_eq_left, fillA, backA, List.headD_cons, List.tail_cons, Option.map_some, setL, asgT, true_or, true_and, List.length_cons, List.length_nil, exists_eq', exists_const, gx_lst, gx_tup, gx_add, gx_sub, gx_lt, gx_le, gx_gt, gx_ge, gx_len, gx_lenD, gx_lenS, gx_neg, gx_list, gx_eqI, gx_neI, gx_eqS, gx_neS, gx_itL, gx_itl, gx_itD, gx_items, D.bl.injEq, D.int.injEq, D.lst.injEq, D.tup.injEq, D.dct.injEq, D.str.injEq, and_true, Bool.not_true, Bool.not_false, Bool.false_eq_true, Bool.true_eq_false, if_true, if_false, Bool.not_eq_true', decide_eq_true_eq, decide_eq_false_iff_not, wipeE, not_false_eq_true, wp_dRm, gx_ty, gx_isi, ii_s, ii_l, ii_d, Option.map_some, not_true_eq_false, ws_sSwp, gx_eqIX, gx_neIX, gx_eqSX, gx_neSX, gx_listW, wp_dLmP, ws_sSAug, ws_sSto2, wp_nilP, wp_consP, wp_dDisp0, neg1, last_sD, c, decide_false, id]
  rw [flt_sD]
  have ho : ∀ s ∈ ms.filter (fun s => !decide (s = y)), s ∈ ms ∧ s ≠ y := fun s hs => by
    obtain ⟨g1, g2⟩ := List.mem_filter.mp hs
    exact ⟨g1, by simpa using g2⟩
  obtain ⟨x0, hx0, nx0⟩ := two_ex hM.nd h2 y
  have hne : x0 ∈ ms.filter (fun s => !decide (s = y)) := List.mem_filter.mpr ⟨hx0, by simpa using nx0⟩
  have hol : (ms.filter fun s => !decide (s = y)).length ≤ 12 := Nat.le_trans (List.length_filter_le ..) h12
  generalize ms.filter (fun s => !decide (s = y)) = os at ho hne hol ⊢
  have eo : (sD os).length = os.length := List.length_map ..
  refine ws_seq.mpr (ws_sSet.mpr ?_)
  refine wp_d2.mpr ?_
  refine wp_dLcM2 (fun d => match d with | .str s => decide (y.cps.toList < s.cps.toList) | _ => false) id (sD os) [some t, some (.lst (sD ms)), some many, some (.lst (sD (p ++ [y]))), some (.int (way : Nat)), some d, some (.lst (sD os)), a7, a8, none] ?_ (by omega) ?_ ?_
  · simp (config := { maxSteps := 3000000 }) only [wp_dC, wp_dV, wp_d1, wp_d2, wp_nilA, wp_consA, wp_dN, wp_bT, wp_bNot, wp_bAnd, wp_bOr, wp_bYes, wp_dIf, wp_dNot, wp_dAnd, wp_dOr, wp_dChain, wp_oNone, wp_oSome, wp_dSl, wp_dUp, wp_itE, wp_itKE, wp_itemsE, wp_valsE, wp_rngE, wp_zipE, wp_dCall, wp_consS, wp_dLm, ws_skip, ws_seq, ws_sSet, ws_sIf, ws_sRet, ws_sExpr, ws_sPar, ws_sAsg, ws_sSto, ws_stoV, ws_bk, ws_ct, List.getElem?_cons_zero, List.getElem?_cons_succ, List.set_cons_zero, List.set_cons_succ, Option.some.injEq, exists_eq_left', exists_eq_left, fillA, backA, List.headD_cons, List.tail_cons, Option.map_some, setL, asgT, true_or, true_and, List.length_cons, List.length_nil, exists_eq', exists_const, gx_lst, gx_tup, gx_add, gx_sub, gx_lt, gx_le, gx_gt, gx_ge, gx_len, gx_lenD, gx_lenS, gx_neg, gx_list, gx_eqI, gx_neI, gx_eqS, gx_neS, gx_itL, gx_itl, gx_itD, gx_items, D.bl.injEq, D.int.injEq, D.lst.injEq, D.tup.injEq, D.dct.injEq, D.str.injEq, and_true, Bool.not_true, Bool.not_false, Bool.false_eq_true, Bool.true_eq_false, if_true, if_false, Bool.not_eq_true', decide_eq_true_eq, decide_eq_false_iff_not, wipeE, not_false_eq_true, wp_dRm, gx_ty, gx_isi, ii_s, ii_l, ii_d, Option.map_some, not_true_eq_false, ws_sSwp, gx_eqIX, gx_neIX, gx_eqSX, gx_neSX, gx_listW, wp_dLmP, ws_sSAug, ws_sSto2, wp_nilP, wp_consP, wp_dDisp0]
  · intro d hd
    obtain ⟨s, hs, rfl⟩ := List.mem_map.mp hd
    refine ⟨_, rfl, ?_⟩
    by_cases c : y.cps.toList < s.cps.toList
    · simp (config := { maxSteps := 3000000 }) only [wp_dC, wp_dV, wp_d1, wp_d2, wp_nilA, wp_consA, wp_dN, wp_bT, wp_bNot, wp_bAnd, wp_bOr, wp_bYes, wp_dIf, wp_dNot, wp_dAnd, wp_dOr, wp_dChain, wp_oNone, wp_oSome, wp_dSl, wp_dUp, wp_itE, wp_itKE, wp_itemsE, wp_valsE, wp_rngE, wp_zipE, wp_dCall, wp_consS, wp_dLm, ws_skip, ws_seq, ws_sSet, ws_sIf, ws_sRet, ws_sExpr, ws_sPar, ws_sAsg, ws_sSto, ws_stoV, ws_bk, ws_ct, List.getElem?_cons_zero, List.getElem?_cons_succ, List.set_cons_zero, List.set_cons_succ, Option.some.injEq, exists_eq_left', exists_eq_left, fillA, backA, List.headD_cons, List.tail_cons, Option.map_some, setL, asgT, true_or, true_and, List.length_cons, List.length_nil, exists_eq', exists_const, gx_lst, gx_tup, gx_add, gx_sub, gx_lt, gx_le, gx_gt, gx_ge, gx_len, gx_lenD, gx_lenS, gx_neg, gx_list, gx_eqI, gx_neI, gx_eqS, gx_neS, gx_itL, gx_itl, gx_itD, gx_items, D.bl.injEq, D.int.injEq, D.lst.injEq, D.tup.injEq, D.dct.injEq, D.str.injEq, and_true, Bool.not_true, Bool.not_false, Bool.false_eq_true, Bool.true_eq_false, if_true, if_false, Bool.not_eq_true', decide_eq_true_eq, decide_eq_false_iff_not, wipeE, not_false_eq_true, wp_dRm, gx_ty, gx_isi, ii_s, ii_l, ii_d, Option.map_some, not_true_eq_false, ws_sSwp, gx_eqIX, gx_neIX, gx_eqSX, gx_neSX, gx_listW, wp_dLmP, ws_sSAug, ws_sSto2, wp_nilP, wp_consP, wp_dDisp0, neg1, last_sD, gx_gtS, c, decide_true, id]
    · simp (config := { maxSteps := 3000000 }) only [wp_dC, wp_dV, wp_d1, wp_d2, wp_nilA, wp_consA, wp_dN, wp_bT, wp_bNot, wp_bAnd, wp_bOr, wp_bYes, wp_dIf, wp_dNot, wp_dAnd, wp_dOr, wp_dChain, wp_oNone, wp_oSome, wp_dSl, wp_dUp, wp_itE, wp_itKE, wp_itemsE, wp_valsE, wp_rngE, wp_zipE, wp_dCall, wp_consS, wp_dLm, ws_skip, ws_seq, ws_sSet, ws_sIf, ws_sRet, ws_sExpr, ws_sPar, ws_sAsg, ws_sSto, ws_stoV, ws_bk, ws_ct, List.getElem?_cons_zero, List.getElem?_cons_succ, List.set_cons_zero, List.set_cons_succ, Option.some.injEq, exists_eq_left', exists_eq_left, fillA, backA, List.headD_cons, List.tail_cons, Option.map_some, setL, asgT, true_or, true_and, List.length_cons, List.length_nil, exists_eq', exists_const, gx_lst, gx_tup, gx_add, gx_sub, gx_lt, gx_le, gx_gt, gx_ge, gx_len, gx_lenD, gx_lenS, gx_neg, gx_list, gx_eqI, gx_neI, gx_eqS, gx_neS, gx_itL, gx_itl, gx_itD, gx_items, D.bl.injEq, D.int.injEq, D.lst.injEq, D.tup.injEq, D.dct.injEq, D.str.injEq, and_true, Bool.not_true, Bool.not_false, Bool.false_eq_true, Bool.true_eq_false, if_true, if_false, Bool.not_eq_true', decide_eq_true_eq, decide_eq_false_iff_not, wipeE, not_false_eq_true, wp_dRm, gx_ty, gx_isi, ii_s, ii_l, ii_d, Option.map_some, not_true_eq_false, ws_sSwp, gx_eqIX, gx_neIX, gx_eqSX, gx_neSX, gx_listW, wp_dLmP, ws_sSAug, ws_sSto2, wp_nilP, wp_consP, wp_dDisp0, neg1, last_sD, gx_gtS, c, decide_false]
  rw [flt_sD]
  have hsm : ∀ s ∈ os.filter (fun s => decide (y.cps.toList < s.cps.toList)), s ∈ ms ∧ s ≠ y := fun s hs => ho s (List.mem_filter.mp hs).1
  have hsl : (os.filter fun s => decide (y.cps.toList < s.cps.toList)).length ≤ 12 := Nat.le_trans (List.length_filter_le ..) hol
  generalize os.filter (fun s => decide (y.cps.toList < s.cps.toList)) = fs at hsm hsl ⊢
  have ef : (sD fs).length = fs.length := List.length_map ..
  have opos := List.length_pos_of_mem hne
  have at_ : ∀ k : Nat, (k : Int) < (os.length : Nat) → ∃ s, PD.gSub (.lst (sD os)) (.int (k : Nat)) = some (.str s) ∧ s ∈ ms ∧ s ≠ y := fun k hk => by
    have hk : k < os.length := by omega
    exact ⟨os[k], gx_at (by rw [List.getElem?_map, List.getElem?_eq_getElem hk]; rfl), ho _ (List.getElem_mem hk)⟩
  have ec2 : gCat (.lst (sD fs)) (.lst (sD os)) = some (.lst (sD (fs ++ os))) := by
    rw [cat_is (by rw [ef, eo]; omega), sD, sD, sD, List.map_append]
  obtain ⟨s3, r3, e3⟩ := List.exists_cons_of_ne_nil (show fs ++ os ≠ [] from fun z => by rw [List.append_eq_nil_iff.mp z |>.2] at opos; exact absurd opos (by simp))
  have es3 : PD.gSub (.lst (sD (fs ++ os))) (.int 0) = some (.str s3) := by rw [e3]; exact gx_at (k := 0) rfl
  have hs3 : s3 ∈ ms := by
    have : s3 ∈ fs ++ os := by rw [e3]; exact List.mem_cons_self
    rcases List.mem_append.mp this with z | z
    · exact (hsm s3 z).1
    · exact (ho s3 z).1
  -- what stands one place back
  obtain ⟨bk, z2, ebk, hbk, ebk0⟩ : ∃ bk z2, gSl (.lst (sD (p ++ [y]))) (some (-2)) none = some (.lst bk) ∧ z2 ∈ ms ∧ PD.gSub (.lst bk) (.int 0) = some (.str z2) := by
    have hc := cut_mk (ds := sD (p ++ [y])) (k := 2) (by decide)
    have el : (sD (p ++ [y])).length = p.length + 1 := by rw [List.length_map, List.length_append]; rfl
    rw [el] at hc
    have hk : p.length + 1 - 2 < (p ++ [y]).length := by rw [List.length_append]; show _ < p.length + 1; omega
    refine ⟨_, (p ++ [y])[p.length + 1 - 2], hc, hm _ (List.getElem_mem _), ?_⟩
    refine gx_at (k := 0) ?_
    rw [List.getElem?_drop, Nat.add_zero, sD, List.getElem?_map, List.getElem?_eq_getElem hk]
    rfl
  simp (config := { maxSteps := 3000000 }) only [wp_dC, wp_dV, wp_d1, wp_d2, wp_nilA, wp_consA, wp_dN, wp_bT, wp_bNot, wp_bAnd, wp_bOr, wp_bYes, wp_dIf, wp_dNot, wp_dAnd, wp_dOr, wp_dChain, wp_oNone, wp_oSome, wp_dSl, wp_dUp, wp_itE, wp_itKE, wp_itemsE, wp_valsE, wp_rngE, wp_zipE, wp_dCall, wp_consS, wp_dLm, ws_skip, ws_seq, ws_sSet, ws_sIf, ws_sRet, ws_sExpr, ws_sPar, ws_sAsg, ws_sSto, ws_stoV, ws_bk, ws_ct, List.getElem?_cons_zero, List.getElem?_cons_succ, List.set_cons_zero, List.set_cons_succ, Option.some.injEq, exists_eq_left', exists_eq_left, fillA, backA, List.headD_cons, List.tail_cons, Option.map_some, setL, asgT, true_or, true_and, List.length_cons, List.length_nil, exists_eq', exists_const, gx_lst, gx_tup, gx_add, gx_sub, gx_lt, gx_le, gx_gt, gx_ge, gx_len, gx_lenD, gx_lenS, gx_neg, gx_list, gx_eqI, gx_neI, gx_eqS, gx_neS, gx_itL, gx_itl, gx_itD, gx_items, D.bl.injEq, D.int.injEq, D.lst.injEq, D.tup.injEq, D.dct.injEq, D.str.injEq, and_true, Bool.not_true, Bool.not_false, Bool.false_eq_true, Bool.true_eq_false, if_true, if_false, Bool.not_eq_true', decide_eq_true_eq, decide_eq_false_iff_not, wipeE, not_false_eq_true, wp_dRm, gx_ty, gx_isi, ii_s, ii_l, ii_d, Option.map_some, not_true_eq_false, ws_sSwp, gx_eqIX, gx_neIX, gx_eqSX, gx_neSX, gx_listW, wp_dLmP, ws_sSAug, ws_sSto2, wp_nilP, wp_consP, wp_dDisp0, neg1, neg2, ebk, ec2, eo]
  obtain ⟨r, ds', h1, k1, rfl, hk1, t1, rfl, ht1⟩ := ok_dig (m := (os.length : Nat)) ht (by omega) (by omega) (by omega)
  refine ⟨_, _, h1, ?_⟩
  obtain ⟨s1, es1, hs1⟩ := at_ k1 hk1
  obtain ⟨st, est, hst⟩ : ∃ st, PD.gSub (.lst [.str s1, .str z2, .str s3]) (.int (way : Nat)) = some (.str st) ∧ st ∈ ms := by
    match way, hw with
    | 0, _ => exact ⟨s1, rfl, hs1.1⟩
    | 1, _ => exact ⟨z2, rfl, hbk⟩
    | 2, _ => exact ⟨s3, rfl, hs3⟩
  have fin : ∀ (t' : D) (n' : Nat) (s : Str) (x6 x7 x8 : Option D), Tn t' n' → n' ≤ n + 10 * j + 10 → s ∈ ms → s ≠ y → HI ms way many n (j + 1) [some t', some (.lst (sD ms)), some many, some (.lst (sD (p ++ [y]) ++ [.str s])), some (.int (way : Nat)), some d, x6, x7, x8, none] := fun t' n' s x6 x7 x8 g1 g2 g3 g4 => by
    refine ⟨t', p ++ [y], s, _, _, _, _, by rw [sD_snoc (xs := p ++ [y]) (y := s)], g1.mono (by omega), ?_, fun x hx => ?_, by rw [List.length_append, hp]; rfl⟩
    · rw [List.append_assoc]
      exact hs_snoc hs fun z => g4 z.symm
    · rcases List.mem_append.mp hx with hx | hx
      · exact hm x hx
      · rw [List.mem_singleton.mp hx]; exact g3
  have hll : (sD (p ++ [y])).length < sizeLine := by rw [List.length_map, List.length_append, List.length_singleton]; omega
  simp (config := { maxSteps := 3000000 }) only [wp_dC, wp_dV, wp_d1, wp_d2, wp_nilA, wp_consA, wp_dN, wp_bT, wp_bNot, wp_bAnd, wp_bOr, wp_bYes, wp_dIf, wp_dNot, wp_dAnd, wp_dOr, wp_dChain, wp_oNone, wp_oSome, wp_dSl, wp_dUp, wp_itE, wp_itKE, wp_itemsE, wp_valsE, wp_rngE, wp_zipE, wp_dCall, wp_consS, wp_dLm, ws_skip, ws_seq, ws_sSet, ws_sIf, ws_sRet, ws_sExpr, ws_sPar, ws_sAsg, ws_sSto, ws_stoV, ws_bk, ws_ct, List.getElem?_cons_zero, List.getElem?_cons_succ, List.set_cons_zero, List.set_cons_succ, Option.some.injEq, exists_eq_left', exists_eq_left, fillA, backA, List.headD_cons, List.tail_cons, Option.map_some, setL, asgT, true_or, true_and, List.length_cons, List.length_nil, exists_eq', exists_const, gx_lst, gx_tup, gx_add, gx_sub, gx_lt, gx_le, gx_gt, gx_ge, gx_len, gx_lenD, gx_lenS, gx_neg, gx_list, gx_eqI, gx_neI, gx_eqS, gx_neS, gx_itL, gx_itl, gx_itD, gx_items, D.bl.injEq, D.int.injEq, D.lst.injEq, D.tup.injEq, D.dct.injEq, D.str.injEq, and_true, Bool.not_true, Bool.not_false, Bool.false_eq_true, Bool.true_eq_false, if_true, if_false, Bool.not_eq_true', decide_eq_true_eq, decide_eq_false_iff_not, wipeE, not_false_eq_true, wp_dRm, gx_ty, gx_isi, ii_s, ii_l, ii_d, Option.map_some, not_true_eq_false, ws_sSwp, gx_eqIX, gx_neIX, gx_eqSX, gx_neSX, gx_listW, wp_dLmP, ws_sSAug, ws_sSto2, wp_nilP, wp_consP, wp_dDisp0, es1, ebk0, es3, est, last_sD]
  by_cases c : st = y
  · simp (config := { maxSteps := 3000000 }) only [wp_dC, wp_dV, wp_d1, wp_d2, wp_nilA, wp_consA, wp_dN, wp_bT, wp_bNot, wp_bAnd, wp_bOr, wp_bYes, wp_dIf, wp_dNot, wp_dAnd, wp_dOr, wp_dChain, wp_oNone, wp_oSome, wp_dSl, wp_dUp, wp_itE, wp_itKE, wp_itemsE, wp_valsE, wp_rngE, wp_zipE, wp_dCall, wp_consS, wp_dLm, ws_skip, ws_seq, ws_sSet, ws_sIf, ws_sRet, ws_sExpr, ws_sPar, ws_sAsg, ws_sSto, ws_stoV, ws_bk, ws_ct, List.getElem?_cons_zero, List.getElem?_cons_succ, List.set_cons_zero, List.set_cons_succ, Option.some.injEq, exists_eq_left', exists_eq_left, fillA, backA, List.headD_cons, List.tail_cons, Option.map_some, setL, asgT, true_or, true_and, List.length_cons, List.length_nil, exists_eq', exists_const, gx_lst, gx_tup, gx_add, gx_sub, gx_lt, gx_le, gx_gt, gx_ge, gx_len, gx_lenD, gx_lenS, gx_neg, gx_list, gx_eqI, gx_neI, gx_eqS, gx_neS, gx_itL, gx_itl, gx_itD, gx_items, D.bl.injEq, D.int.injEq, D.lst.injEq, D.tup.injEq, D.dct.injEq, D.str.injEq, and_true, Bool.not_true, Bool.not_false, Bool.false_eq_true, Bool.true_eq_false, if_true, if_false, Bool.not_eq_true', decide_eq_true_eq, decide_eq_false_iff_not, wipeE, not_false_eq_true, wp_dRm, gx_ty, gx_isi, ii_s, ii_l, ii_d, Option.map_some, not_true_eq_false, ws_sSwp, gx_eqIX, gx_neIX, gx_eqSX, gx_neSX, gx_listW, wp_dLmP, ws_sSAug, ws_sSto2, wp_nilP, wp_consP, wp_dDisp0, c, decide_true, eo]
    obtain ⟨r, ds', h1, k4, rfl, hk4, t4, rfl, ht4⟩ := ok_dig (m := (os.length : Nat)) ht1 (by omega) (by omega) (by omega)
    refine ⟨_, _, h1, ?_⟩
    obtain ⟨s5, es5, hs5⟩ := at_ k4 hk4
    simp (config := { maxSteps := 3000000 }) only [wp_dC, wp_dV, wp_d1, wp_d2, wp_nilA, wp_consA, wp_dN, wp_bT, wp_bNot, wp_bAnd, wp_bOr, wp_bYes, wp_dIf, wp_dNot, wp_dAnd, wp_dOr, wp_dChain, wp_oNone, wp_oSome, wp_dSl, wp_dUp, wp_itE, wp_itKE, wp_itemsE, wp_valsE, wp_rngE, wp_zipE, wp_dCall, wp_consS, wp_dLm, ws_skip, ws_seq, ws_sSet, ws_sIf, ws_sRet, ws_sExpr, ws_sPar, ws_sAsg, ws_sSto, ws_stoV, ws_bk, ws_ct, List.getElem?_cons_zero, List.getElem?_cons_succ, List.set_cons_zero, List.set_cons_succ, Option.some.injEq, exists_eq_left', exists_eq_left, fillA, backA, List.headD_cons, List.tail_cons, Option.map_some, setL, asgT, true_or, true_and, List.length_cons, List.length_nil, exists_eq', exists_const, gx_lst, gx_tup, gx_add, gx_sub, gx_lt, gx_le, gx_gt, gx_ge, gx_len, gx_lenD, gx_lenS, gx_neg, gx_list, gx_eqI, gx_neI, gx_eqS, gx_neS, gx_itL, gx_itl, gx_itD, gx_items, D.bl.injEq, D.int.injEq, D.lst.injEq, D.tup.injEq, D.dct.injEq, D.str.injEq, and_true, Bool.not_true, Bool.not_false, Bool.false_eq_true, Bool.true_eq_false, if_true, if_false, Bool.not_eq_true', decide_eq_true_eq, decide_eq_false_iff_not, wipeE, not_false_eq_true, wp_dRm, gx_ty, gx_isi, ii_s, ii_l, ii_d, Option.map_some, not_true_eq_false, ws_sSwp, gx_eqIX, gx_neIX, gx_eqSX, gx_neSX, gx_listW, wp_dLmP, ws_sSAug, ws_sSto2, wp_nilP, wp_consP, wp_dDisp0, es5, app_is (d := .str s5) hll, Prod.mk.injEq, and_assoc, exists_and_left]
    exact fin _ _ _ _ _ _ ht4 (by omega) hs5.1 hs5.2
  · simp (config := { maxSteps := 3000000 }) only [wp_dC, wp_dV, wp_d1, wp_d2, wp_nilA, wp_consA, wp_dN, wp_bT, wp_bNot, wp_bAnd, wp_bOr, wp_bYes, wp_dIf, wp_dNot, wp_dAnd, wp_dOr, wp_dChain, wp_oNone, wp_oSome, wp_dSl, wp_dUp, wp_itE, wp_itKE, wp_itemsE, wp_valsE, wp_rngE, wp_zipE, wp_dCall, wp_consS, wp_dLm, ws_skip, ws_seq, ws_sSet, ws_sIf, ws_sRet, ws_sExpr, ws_sPar, ws_sAsg, ws_sSto, ws_stoV, ws_bk, ws_ct, List.getElem?_cons_zero, List.getElem?_cons_succ, List.set_cons_zero, List.set_cons_succ, Option.some.injEq, exists_eq_left', exists_eq_left, fillA, backA, List.headD_cons, List.tail_cons, Option.map_some, setL, asgT, true_or, true_and, List.length_cons, List.length_nil, exists_eq', exists_const, gx_lst, gx_tup, gx_add, gx_sub, gx_lt, gx_le, gx_gt, gx_ge, gx_len, gx_lenD, gx_lenS, gx_neg, gx_list, gx_eqI, gx_neI, gx_eqS, gx_neS, gx_itL, gx_itl, gx_itD, gx_items, D.bl.injEq, D.int.injEq, D.lst.injEq, D.tup.injEq, D.dct.injEq, D.str.injEq, and_true, Bool.not_true, Bool.not_false, Bool.false_eq_true, Bool.true_eq_false, if_true, if_false, Bool.not_eq_true', decide_eq_true_eq, decide_eq_false_iff_not, wipeE, not_false_eq_true, wp_dRm, gx_ty, gx_isi, ii_s, ii_l, ii_d, Option.map_some, not_true_eq_false, ws_sSwp, gx_eqIX, gx_neIX, gx_eqSX, gx_neSX, gx_listW, wp_dLmP, ws_sSAug, ws_sSto2, wp_nilP, wp_consP, wp_dDisp0, c, decide_false]
    obtain ⟨r, ds', h1, k3, rfl, hk3, t3, rfl, ht3⟩ := ok_dig (m := 4) ht1 (by decide) (by decide) (by omega)
    refine ⟨_, _, h1, ?_⟩
    by_cases c2 : ((k3 : Nat) : Int) = 0
    · simp (config := { maxSteps := 3000000 }) only [wp_dC, wp_dV, wp_d1, wp_d2, wp_nilA, wp_consA, wp_dN, wp_bT, wp_bNot, wp_bAnd, wp_bOr, wp_bYes, wp_dIf, wp_dNot, wp_dAnd, wp_dOr, wp_dChain, wp_oNone, wp_oSome, wp_dSl, wp_dUp, wp_itE, wp_itKE, wp_itemsE, wp_valsE, wp_rngE, wp_zipE, wp_dCall, wp_consS, wp_dLm, ws_skip, ws_seq, ws_sSet, ws_sIf, ws_sRet, ws_sExpr, ws_sPar, ws_sAsg, ws_sSto, ws_stoV, ws_bk, ws_ct, List.getElem?_cons_zero, List.getElem?_cons_succ, List.set_cons_zero, List.set_cons_succ, Option.some.injEq, exists_eq_left', exists_eq_left, fillA, backA, List.headD_cons, List.tail_cons, Option.map_some, setL, asgT, true_or, true_and, List.length_cons, List.length_nil, exists_eq', exists_const, gx_lst, gx_tup, gx_add, gx_sub, gx_lt, gx_le, gx_gt, gx_ge, gx_len, gx_lenD, gx_lenS, gx_neg, gx_list, gx_eqI, gx_neI, gx_eqS, gx_neS, gx_itL, gx_itl, gx_itD, gx_items, D.bl.injEq, D.int.injEq, D.lst.injEq, D.tup.injEq, D.dct.injEq, D.str.injEq, and_true, Bool.not_true, Bool.not_false, Bool.false_eq_true, Bool.true_eq_false, if_true, if_false, Bool.not_eq_true', decide_eq_true_eq, decide_eq_false_iff_not, wipeE, not_false_eq_true, wp_dRm, gx_ty, gx_isi, ii_s, ii_l, ii_d, Option.map_some, not_true_eq_false, ws_sSwp, gx_eqIX, gx_neIX, gx_eqSX, gx_neSX, gx_listW, wp_dLmP, ws_sSAug, ws_sSto2, wp_nilP, wp_consP, wp_dDisp0, c2, decide_true, eo]
      obtain ⟨r, ds', h1, k4, rfl, hk4, t4, rfl, ht4⟩ := ok_dig (m := (os.length : Nat)) ht3 (by omega) (by omega) (by omega)
      refine ⟨_, _, h1, ?_⟩
      obtain ⟨s5, es5, hs5⟩ := at_ k4 hk4
      simp (config := { maxSteps := 3000000 }) only [wp_dC, wp_dV, wp_d1, wp_d2, wp_nilA, wp_consA, wp_dN, wp_bT, wp_bNot, wp_bAnd, wp_bOr, wp_bYes, wp_dIf, wp_dNot, wp_dAnd, wp_dOr, wp_dChain, wp_oNone, wp_oSome, wp_dSl, wp_dUp, wp_itE, wp_itKE, wp_itemsE, wp_valsE, wp_rngE, wp_zipE, wp_dCall, wp_consS, wp_dLm, ws_skip, ws_seq, ws_sSet, ws_sIf, ws_sRet, ws_sExpr, ws_sPar, ws_sAsg, ws_sSto, ws_stoV, ws_bk, ws_ct, List.getElem?_cons_zero, List.getElem?_cons_succ, List.set_cons_zero, List.set_cons_succ, Option.some.injEq, exists_eq_left', exists_eq_left, fillA, backA, List.headD_cons, List.tail_cons, Option.map_some, setL, asgT, true_or, true_and, List.length_cons, List.length_nil, exists_eq', exists_const, gx_lst, gx_tup, gx_add, gx_sub, gx_lt, gx_le, gx_gt, gx_ge, gx_len, gx_lenD, gx_lenS, gx_neg, gx_list, gx_eqI, gx_neI, gx_eqS, gx_neS, gx_itL, gx_itl, gx_itD, gx_items, D.bl.injEq, D.int.injEq, D.lst.injEq, D.tup.injEq, D.dct.injEq, D.str.injEq, and_true, Bool.not_true, Bool.not_false, Bool.false_eq_true, Bool.true_eq_false, if_true, if_false, Bool.not_eq_true', decide_eq_true_eq, decide_eq_false_iff_not, wipeE, not_false_eq_true, wp_dRm, gx_ty, gx_isi, ii_s, ii_l, ii_d, Option.map_some, not_true_eq_false, ws_sSwp, gx_eqIX, gx_neIX, gx_eqSX, gx_neSX, gx_listW, wp_dLmP, ws_sSAug, ws_sSto2, wp_nilP, wp_consP, wp_dDisp0, es5, app_is (d := .str s5) hll, Prod.mk.injEq, and_assoc, exists_and_left]
      exact fin _ _ _ _ _ _ ht4 (by omega) hs5.1 hs5.2
    · simp (config := { maxSteps := 3000000 }) only [wp_dC, wp_dV, wp_d1, wp_d2, wp_nilA, wp_consA, wp_dN, wp_bT, wp_bNot, wp_bAnd, wp_bOr, wp_bYes, wp_dIf, wp_dNot, wp_dAnd, wp_dOr, wp_dChain, wp_oNone, wp_oSome, wp_dSl, wp_dUp, wp_itE, wp_itKE, wp_itemsE, wp_valsE, wp_rngE, wp_zipE, wp_dCall, wp_consS, wp_dLm, ws_skip, ws_seq, ws_sSet, ws_sIf, ws_sRet, ws_sExpr, ws_sPar, ws_sAsg, ws_sSto, ws_stoV, ws_bk, ws_ct, List.getElem?_cons_zero, List.getElem?_cons_succ, List.set_cons_zero, List.set_cons_succ, Option.some.injEq, exists_eq_left', exists_eq_left, fillA, backA, List.headD_cons, List.tail_cons, Option.map_some, setL, asgT, true_or, true_and, List.length_cons, List.length_nil, exists_eq', exists_const, gx_lst, gx_tup, gx_add, gx_sub, gx_lt, gx_le, gx_gt, gx_ge, gx_len, gx_lenD, gx_lenS, gx_neg, gx_list, gx_eqI, gx_neI, gx_eqS, gx_neS, gx_itL, gx_itl, gx_itD, gx_items, D.bl.injEq, D.int.injEq, D.lst.injEq, D.tup.injEq, D.dct.injEq, D.str.injEq, and_true, Bool.not_true, Bool.not_false, Bool.false_eq_true, Bool.true_eq_false, if_true, if_false, Bool.not_eq_true', decide_eq_true_eq, decide_eq_false_iff_not, wipeE, not_false_eq_true, wp_dRm, gx_ty, gx_isi, ii_s, ii_l, ii_d, Option.map_some, not_true_eq_false, ws_sSwp, gx_eqIX, gx_neIX, gx_eqSX, gx_neSX, gx_listW, wp_dLmP, ws_sSAug, ws_sSto2, wp_nilP, wp_consP, wp_dDisp0, c2, decide_false, app_is (d := .str st) hll, Prod.mk.injEq, and_assoc, exists_and_left]
      exact fin _ _ _ _ _ _ ht3 (by omega) hst c
theorem ok_history {t : D} {n many : Nat} {ms : List Str} (hM : Mems ms) (ht : Tn t n) (hmy : many ≤ 200) (hn : n ≤ 50000) : Wf m_l_history [t, .lst (sD ms), .int (many : Nat)] fun r ds => ∃ p y t', r = .lst (sD (p ++ [y])) ∧ Hs (p ++ [y]) ∧ (∀ x ∈ p ++ [y], x ∈ ms) ∧ p.length ≤ many ∧ ds = [t', .lst (sD ms), .int (many : Nat)] ∧ Tn t' (n + 5000) := by
  refine wf_sem ?_
  show Ws b_l_history [some _, some _, some _, none, none, none, none, none, none, none] _ _ _ _
  unfold b_l_history
  have h12 := hM.le
  have h1 := hM.pos
  have zl : 2000 < sizeLine := by decide
  have em : (sD ms).length = ms.length := List.length_map ..
  refine ws_seq.mpr (ws_sPar.mpr ?_)
  simp (config := { maxSteps := 3000000 }) only [wp_dC, wp_dV, wp_d1, wp_d2, wp_nilA, wp_consA, wp_dN, wp_bT, wp_bNot, wp_bAnd, wp_bOr, wp_bYes, wp_dIf, wp_dNot, wp_dAnd, wp_dOr, wp_dChain, wp_oNone, wp_oSome, wp_dSl, wp_dUp, wp_itE, wp_itKE, wp_itemsE, wp_valsE, wp_rngE, wp_zipE, wp_dCall, wp_consS, wp_dLm, ws_skip, ws_seq, ws_sSet, ws_sIf, ws_sRet, ws_sExpr, ws_sPar, ws_sAsg, ws_sSto, ws_stoV, ws_bk, ws_ct, List.getElem?_cons_zero, List.getElem?_cons_succ, List.set_cons_zero, List.set_cons_succ, Option.some.injEq, exists_eq_left', exists_eq_left, fillA, backA, List.headD_cons, List.tail_cons, Option.map_some, setL, asgT, true_or, true_and, List.length_cons, List.length_nil, exists_eq', exists_const, gx_lst, gx_tup, gx_add, gx_sub, gx_lt, gx_le, gx_gt, gx_ge, gx_len, gx_lenD, gx_lenS, gx_neg, gx_list, gx_eqI, gx_neI, gx_eqS, gx_neS, gx_itL, gx_itl, gx_itD, gx_items, D.bl.injEq, D.int.injEq, D.lst.injEq, D.tup.injEq, D.dct.injEq, D.str.injEq, and_true, Bool.not_true, Bool.not_false, Bool.false_eq_true, Bool.true_eq_false, if_true, if_false, Bool.not_eq_true', decide_eq_true_eq, decide_eq_false_iff_not, wipeE, not_false_eq_true, wp_dRm, gx_ty, gx_isi, ii_s, ii_l, ii_d, Option.map_some, not_true_eq_false, ws_sSwp, gx_eqIX, gx_neIX, gx_eqSX, gx_neSX, gx_listW, wp_dLmP, ws_sSAug, ws_sSto2, wp_nilP, wp_consP, wp_dDisp0, em]
  obtain ⟨r, ds', g1, k1, rfl, hk1, t1, rfl, ht1⟩ := ok_dig (m := (ms.length : Nat)) ht (by omega) (by omega) (by omega)
  refine ⟨_, _, g1, ?_⟩
  have hk1 : k1 < ms.length := by omega
  have e1 : PD.gSub (.lst (sD ms)) (.int (k1 : Nat)) = some (.str ms[k1]) := gx_at (by rw [List.getElem?_map, List.getElem?_eq_getElem hk1]; rfl)
  have hy0 := List.getElem_mem hk1
  generalize ms[k1] = y0 at e1 hy0
  simp (config := { maxSteps := 3000000 }) only [wp_dC, wp_dV, wp_d1, wp_d2, wp_nilA, wp_consA, wp_dN, wp_bT, wp_bNot, wp_bAnd, wp_bOr, wp_bYes, wp_dIf, wp_dNot, wp_dAnd, wp_dOr, wp_dChain, wp_oNone, wp_oSome, wp_dSl, wp_dUp, wp_itE, wp_itKE, wp_itemsE, wp_valsE, wp_rngE, wp_zipE, wp_dCall, wp_consS, wp_dLm, ws_skip, ws_seq, ws_sSet, ws_sIf, ws_sRet, ws_sExpr, ws_sPar, ws_sAsg, ws_sSto, ws_stoV, ws_bk, ws_ct, List.getElem?_cons_zero, List.getElem?_cons_succ, List.set_cons_zero, List.set_cons_succ, Option.some.injEq, exists_eq_left', exists_eq_left, fillA, backA, List.headD_cons, List.tail_cons, Option.map_some, setL, asgT, true_or, true_and, List.length_cons, List.length_nil, exists_eq', exists_const, gx_lst, gx_tup, gx_add, gx_sub, gx_lt, gx_le, gx_gt, gx_ge, gx_len, gx_lenD, gx_lenS, gx_neg, gx_list, gx_eqI, gx_neI, gx_eqS, gx_neS, gx_itL, gx_itl, gx_itD, gx_items, D.bl.injEq, D.int.injEq, D.lst.injEq, D.tup.injEq, D.dct.injEq, D.str.injEq, and_true, Bool.not_true, Bool.not_false, Bool.false_eq_true, Bool.true_eq_false, if_true, if_false, Bool.not_eq_true', decide_eq_true_eq, decide_eq_false_iff_not, wipeE, not_false_eq_true, wp_dRm, gx_ty, gx_isi, ii_s, ii_l, ii_d, Option.map_some, not_true_eq_false, ws_sSwp, gx_eqIX, gx_neIX, gx_eqSX, gx_neSX, gx_listW, wp_dLmP, ws_sSAug, ws_sSto2, wp_nilP, wp_consP, wp_dDisp0, e1]
  obtain ⟨r, ds', g1, way, rfl, hw, t2, rfl, ht2⟩ := ok_dig (m := 3) ht1 (by decide) (by decide) (by omega)
  refine ⟨_, _, g1, ?_⟩
  have hw : way < 3 := by omega
  simp (config := { maxSteps := 3000000 }) only [wp_dC, wp_dV, wp_d1, wp_d2, wp_nilA, wp_consA, wp_dN, wp_bT, wp_bNot, wp_bAnd, wp_bOr, wp_bYes, wp_dIf, wp_dNot, wp_dAnd, wp_dOr, wp_dChain, wp_oNone, wp_oSome, wp_dSl, wp_dUp, wp_itE, wp_itKE, wp_itemsE, wp_valsE, wp_rngE, wp_zipE, wp_dCall, wp_consS, wp_dLm, ws_skip, ws_seq, ws_sSet, ws_sIf, ws_sRet, ws_sExpr, ws_sPar, ws_sAsg, ws_sSto, ws_stoV, ws_bk, ws_ct, List.getElem?_cons_zero, List.getElem?_cons_succ, List.set_cons_zero, List.set_cons_succ, Option.some.injEq, exists_eq_left', exists_eq_left, fillA, backA, List.headD_cons, List.tail_cons, Option.map_some, setL, asgT, true_or, true_and, List.length_cons, List.length_nil, exists_eq', exists_const, gx_lst, gx_tup, gx_add, gx_sub, gx_lt, gx_le, gx_gt, gx_ge, gx_len, gx_lenD, gx_lenS, gx_neg, gx_list, gx_eqI, gx_neI, gx_eqS, gx_neS, gx_itL, gx_itl, gx_itD, gx_items, D.bl.injEq, D.int.injEq, D.lst.injEq, D.tup.injEq, D.dct.injEq, D.str.injEq, and_true, Bool.not_true, Bool.not_false, Bool.false_eq_true, Bool.true_eq_false, if_true, if_false, Bool.not_eq_true', decide_eq_true_eq, decide_eq_false_iff_not, wipeE, not_false_eq_true, wp_dRm, gx_ty, gx_isi, ii_s, ii_l, ii_d, Option.map_some, not_true_eq_false, ws_sSwp, gx_eqIX, gx_neIX, gx_eqSX, gx_neSX, gx_listW, wp_dLmP, ws_sSAug, ws_sSto2, wp_nilP, wp_consP, wp_dDisp0]
  refine ws_for2 (fun ds e1 => ∃ k t4, k ≤ many ∧ (ms.length < 2 → k = 0) ∧ ds = (List.range k).map (fun i => D.int (i : Nat)) ∧ e1 = [some t4, some (.lst (sD ms)), some (.int (many : Nat)), some (.lst (sD ([] ++ [y0]))), some (.int (way : Nat)), none, none, none, none, none] ∧ Tn t4 (n + 20)) (fun _ _ => HI ms way (.int (many : Nat)) (n + 20)) ?_ ?_ ?_ ?_
  · simp (config := { maxSteps := 3000000 }) only [wp_dC, wp_dV, wp_d1, wp_d2, wp_nilA, wp_consA, wp_dN, wp_bT, wp_bNot, wp_bAnd, wp_bOr, wp_bYes, wp_dIf, wp_dNot, wp_dAnd, wp_dOr, wp_dChain, wp_oNone, wp_oSome, wp_dSl, wp_dUp, wp_itE, wp_itKE, wp_itemsE, wp_valsE, wp_rngE, wp_zipE, wp_dCall, wp_consS, wp_dLm, ws_skip, ws_seq, ws_sSet, ws_sIf, ws_sRet, ws_sExpr, ws_sPar, ws_sAsg, ws_sSto, ws_stoV, ws_bk, ws_ct, List.getElem?_cons_zero, List.getElem?_cons_succ, List.set_cons_zero, List.set_cons_succ, Option.some.injEq, exists_eq_left', exists_eq_left, fillA, backA, List.headD_cons, List.tail_cons, Option.map_some, setL, asgT, true_or, true_and, List.length_cons, List.length_nil, exists_eq', exists_const, gx_lst, gx_tup, gx_add, gx_sub, gx_lt, gx_le, gx_gt, gx_ge, gx_len, gx_lenD, gx_lenS, gx_neg, gx_list, gx_eqI, gx_neI, gx_eqS, gx_neS, gx_itL, gx_itl, gx_itD, gx_items, D.bl.injEq, D.int.injEq, D.lst.injEq, D.tup.injEq, D.dct.injEq, D.str.injEq, and_true, Bool.not_true, Bool.not_false, Bool.false_eq_true, Bool.true_eq_false, if_true, if_false, Bool.not_eq_true', decide_eq_true_eq, decide_eq_false_iff_not, wipeE, not_false_eq_true, wp_dRm, gx_ty, gx_isi, ii_s, ii_l, ii_d, Option.map_some, not_true_eq_false, ws_sSwp, gx_eqIX, gx_neIX, gx_eqSX, gx_neSX, gx_listW, wp_dLmP, ws_sSAug, ws_sSto2, wp_nilP, wp_consP, wp_dDisp0]
    obtain ⟨r, ds', g1, k, rfl, hk, t4, rfl, ht4⟩ := ok_dig (m := ((many : Nat) : Int) + 1) ht2 (by omega) (by omega) (by omega)
    refine ⟨_, _, g1, ?_⟩
    simp (config := { maxSteps := 3000000 }) only [wp_dC, wp_dV, wp_d1, wp_d2, wp_nilA, wp_consA, wp_dN, wp_bT, wp_bNot, wp_bAnd, wp_bOr, wp_bYes, wp_dIf, wp_dNot, wp_dAnd, wp_dOr, wp_dChain, wp_oNone, wp_oSome, wp_dSl, wp_dUp, wp_itE, wp_itKE, wp_itemsE, wp_valsE, wp_rngE, wp_zipE, wp_dCall, wp_consS, wp_dLm, ws_skip, ws_seq, ws_sSet, ws_sIf, ws_sRet, ws_sExpr, ws_sPar, ws_sAsg, ws_sSto, ws_stoV, ws_bk, ws_ct, List.getElem?_cons_zero, List.getElem?_cons_succ, List.set_cons_zero, List.set_cons_succ, Option.some.injEq, exists_eq_left', exists_eq_left, fillA, backA, List.headD_cons, List.tail_cons, Option.map_some, setL, asgT, true_or, true_and, List.length_cons, List.length_nil, exists_eq', exists_const, gx_lst, gx_tup, gx_add, gx_sub, gx_lt, gx_le, gx_gt, gx_ge, gx_len, gx_lenD, gx_lenS, gx_neg, gx_list, gx_eqI, gx_neI, gx_eqS, gx_neS, gx_itL, gx_itl, gx_itD, gx_items, D.bl.injEq, D.int.injEq, D.lst.injEq, D.tup.injEq, D.dct.injEq, D.str.injEq, and_true, Bool.not_true, Bool.not_false, Bool.false_eq_true, Bool.true_eq_false, if_true, if_false, Bool.not_eq_true', decide_eq_true_eq, decide_eq_false_iff_not, wipeE, not_false_eq_true, wp_dRm, gx_ty, gx_isi, ii_s, ii_l, ii_d, Option.map_some, not_true_eq_false, ws_sSwp, gx_eqIX, gx_neIX, gx_eqSX, gx_neSX, gx_listW, wp_dLmP, ws_sSAug, ws_sSto2, wp_nilP, wp_consP, wp_dDisp0, em]
    by_cases c : (1 : Int) < (ms.length : Nat)
    · have ei : gInt [.bl (decide ((1 : Int) < (ms.length : Nat)))] = some (.int 1) := by rw [decide_eq_true c]; rfl
      have emu : gMul (.int (k : Nat)) (.int 1) = some (.int (k : Nat)) := by
        have hw : CMulW ((k : Nat) : Int) 1 := wide_mul (a := 40) (b := 40) (by omega) (by decide) (by decide) (by decide) (by decide)
        have := gI_is (C := CMulW) (f := fun i j => i * j) hw
        rw [Int.mul_one] at this; exact this
      refine ⟨_, ei, _, emu, _, rng_is (by omega), k, t4, by omega, fun z => by omega, rfl, rfl, ht4.mono (by omega)⟩
    · have ei : gInt [.bl (decide ((1 : Int) < (ms.length : Nat)))] = some (.int 0) := by rw [decide_eq_false c]; rfl
      have emu : gMul (.int (k : Nat)) (.int 0) = some (.int (0 : Nat)) := by
        have hw : CMulW ((k : Nat) : Int) 0 := wide_mul (a := 40) (b := 40) (by omega) (by decide) (by decide) (by decide) (by decide)
        have := gI_is (C := CMulW) (f := fun i j => i * j) hw
        rw [Int.mul_zero] at this; exact this
      refine ⟨_, ei, _, emu, _, rng_is (n := 0) (by decide), 0, t4, by omega, fun _ => rfl, rfl, rfl, ht4.mono (by omega)⟩
  · rintro _ _ ⟨k, t4, hk, _, rfl, rfl, ht4⟩
    exact ⟨t4, [], y0, none, none, none, none, rfl, ht4, fun q hq => (by cases hq), fun x hx => by rw [List.mem_singleton.mp hx]; exact hy0, rfl⟩
  · rintro _ _ ⟨k, t4, hk, h0, rfl, rfl, ht4⟩ j d e hd h
    have hj : j < k := by
      have := (List.getElem?_eq_some_iff.mp hd).1
      rw [List.length_map, List.length_range] at this; exact this
    have h2 : 2 ≤ ms.length := by
      rcases Nat.lt_or_ge ms.length 2 with z | z
      · have := h0 z; omega
      · exact z
    obtain ⟨e1, g1, g2⟩ := hi_step hM h2 hw (by omega) (by omega) h
    exact ⟨e1, g1, g2.mono (fun _ q => q) (fun _ _ q => q.elim) (fun _ q => q.elim) fun _ q => q.elim⟩
  · rintro _ _ ⟨k, t4, hk, h0, rfl, rfl, ht4⟩ e ⟨t5, p, y, a5, a6, a7, a8, rfl, ht5, hs, hm, hpl⟩
    rw [List.length_map, List.length_range] at ht5 hpl
    simp (config := { maxSteps := 3000000 }) only [wp_dC, wp_dV, wp_d1, wp_d2, wp_nilA, wp_consA, wp_dN, wp_bT, wp_bNot, wp_bAnd, wp_bOr, wp_bYes, wp_dIf, wp_dNot, wp_dAnd, wp_dOr, wp_dChain, wp_oNone, wp_oSome, wp_dSl, wp_dUp, wp_itE, wp_itKE, wp_itemsE, wp_valsE, wp_rngE, wp_zipE, wp_dCall, wp_consS, wp_dLm, ws_skip, ws_seq, ws_sSet, ws_sIf, ws_sRet, ws_sExpr, ws_sPar, ws_sAsg, ws_sSto, ws_stoV, ws_bk, ws_ct, List.getElem?_cons_zero, List.getElem?_cons_succ, List.set_cons_zero, List.set_cons_succ, Option.some.injEq, exists_eq_left', exists_eq_left, fillA, backA, List.headD_cons, List.tail_cons, Option.map_some, setL, asgT, true_or, true_and, List.length_cons, List.length_nil, exists_eq', exists_const, gx_lst, gx_tup, gx_add, gx_sub, gx_lt, gx_le, gx_gt, gx_ge, gx_len, gx_lenD, gx_lenS, gx_neg, gx_list, gx_eqI, gx_neI, gx_eqS, gx_neS, gx_itL, gx_itl, gx_itD, gx_items, D.bl.injEq, D.int.injEq, D.lst.injEq, D.tup.injEq, D.dct.injEq, D.str.injEq, and_true, Bool.not_true, Bool.not_false, Bool.false_eq_true, Bool.true_eq_false, if_true, if_false, Bool.not_eq_true', decide_eq_true_eq, decide_eq_false_iff_not, wipeE, not_false_eq_true, wp_dRm, gx_ty, gx_isi, ii_s, ii_l, ii_d, Option.map_some, not_true_eq_false, ws_sSwp, gx_eqIX, gx_neIX, gx_eqSX, gx_neSX, gx_listW, wp_dLmP, ws_sSAug, ws_sSto2, wp_nilP, wp_consP, wp_dDisp0]
    exact ⟨by rfl, p, y, t5, rfl, hs, hm, by omega, rfl, ht5.mono (by omega)⟩
/-! ### members: what the program checks -/
theorem az_in {c : Nat} (h : 97 ≤ c ∧ c ≤ 122) : c ∈ (("abcdefghijklmnopqrstuvwxyz" : String) : Str).cps.toList := by
  have : ∀ c : Fin 123, 97 ≤ c.val → c.val ∈ (("abcdefghijklmnopqrstuvwxyz" : String) : Str).cps.toList := by decide +kernel
  exact this ⟨c, by omega⟩ h.1
theorem ok_is_name {s : Str} (h : Nw s) : Wf m_is_name [.str s] fun r ds => r = .bl true ∧ ds = [.str s] := by
  refine wf_sem ?_
  show Ws b_is_name [some _, none] _ _ _ _
  unfold b_is_name
  have hz : s.length ≤ sizeLine := Nat.le_trans h.hi (by decide)
  have hl : gLen [.str s] = some (.int (s.length : Nat)) := by
    show (lenD (.str s)).map _ = _
    show Option.map _ (if s.length ≤ sizeLine then some s.length else none) = _
    rw [if_pos hz]; rfl
  have h1 : (1 : Int) ≤ (s.length : Nat) := by have := h.lo; omega
  have h8 : ((s.length : Nat) : Int) ≤ 8 := by have := h.hi; omega
  simp (config := { maxSteps := 3000000 }) only [wp_dC, wp_dV, wp_d1, wp_d2, wp_nilA, wp_consA, wp_dN, wp_bT, wp_bNot, wp_bAnd, wp_bOr, wp_bYes, wp_dIf, wp_dNot, wp_dAnd, wp_dOr, wp_dChain, wp_oNone, wp_oSome, wp_dSl, wp_dUp, wp_itE, wp_itKE, wp_itemsE, wp_valsE, wp_rngE, wp_zipE, wp_dCall, wp_consS, wp_dLm, ws_skip, ws_seq, ws_sSet, ws_sIf, ws_sRet, ws_sExpr, ws_sPar, ws_sAsg, ws_sSto, ws_stoV, ws_bk, ws_ct, List.getElem?_cons_zero, List.getElem?_cons_succ, List.set_cons_zero, List.set_cons_succ, Option.some.injEq, exists_eq_left', exists_eq_left, fillA, backA, List.headD_cons, List.tail_cons, Option.map_some, setL, asgT, true_or, true_and, List.length_cons, List.length_nil, exists_eq', exists_const, gx_lst, gx_tup, gx_add, gx_sub, gx_lt, gx_le, gx_gt, gx_ge, gx_len, gx_lenD, gx_lenS, gx_neg, gx_list, gx_eqI, gx_neI, gx_eqS, gx_neS, gx_itL, gx_itl, gx_itD, gx_items, D.bl.injEq, D.int.injEq, D.lst.injEq, D.tup.injEq, D.dct.injEq, D.str.injEq, and_true, Bool.not_true, Bool.not_false, Bool.false_eq_true, Bool.true_eq_false, if_true, if_false, Bool.not_eq_true', decide_eq_true_eq, decide_eq_false_iff_not, wipeE, not_false_eq_true, wp_dRm, gx_ty, gx_isi, ii_s, ii_l, ii_d, Option.map_some, not_true_eq_false, ws_sSwp, gx_eqIX, gx_neIX, gx_eqSX, gx_neSX, gx_listW, wp_dLmP, ws_sSAug, ws_sSto2, wp_nilP, wp_consP, wp_dDisp0, hl, h1, h8, decide_true]
  refine wp_dLcM2 (fun _ => true) (fun _ => .bl true) (s.cps.toList.map chr1) [some (.str s), none] ?_ ?_ ?_ ?_
  · simp (config := { maxSteps := 3000000 }) only [wp_dC, wp_dV, wp_d1, wp_d2, wp_nilA, wp_consA, wp_dN, wp_bT, wp_bNot, wp_bAnd, wp_bOr, wp_bYes, wp_dIf, wp_dNot, wp_dAnd, wp_dOr, wp_dChain, wp_oNone, wp_oSome, wp_dSl, wp_dUp, wp_itE, wp_itKE, wp_itemsE, wp_valsE, wp_rngE, wp_zipE, wp_dCall, wp_consS, wp_dLm, ws_skip, ws_seq, ws_sSet, ws_sIf, ws_sRet, ws_sExpr, ws_sPar, ws_sAsg, ws_sSto, ws_stoV, ws_bk, ws_ct, List.getElem?_cons_zero, List.getElem?_cons_succ, List.set_cons_zero, List.set_cons_succ, Option.some.injEq, exists_eq_left', exists_eq_left, fillA, backA, List.headD_cons, List.tail_cons, Option.map_some, setL, asgT, true_or, true_and, List.length_cons, List.length_nil, exists_eq', exists_const, gx_lst, gx_tup, gx_add, gx_sub, gx_lt, gx_le, gx_gt, gx_ge, gx_len, gx_lenD, gx_lenS, gx_neg, gx_list, gx_eqI, gx_neI, gx_eqS, gx_neS, gx_itL, gx_itl, gx_itD, gx_items, D.bl.injEq, D.int.injEq, D.lst.injEq, D.tup.injEq, D.dct.injEq, D.str.injEq, and_true, Bool.not_true, Bool.not_false, Bool.false_eq_true, Bool.true_eq_false, if_true, if_false, Bool.not_eq_true', decide_eq_true_eq, decide_eq_false_iff_not, wipeE, not_false_eq_true, wp_dRm, gx_ty, gx_isi, ii_s, ii_l, ii_d, Option.map_some, not_true_eq_false, ws_sSwp, gx_eqIX, gx_neIX, gx_eqSX, gx_neSX, gx_listW, wp_dLmP, ws_sSAug, ws_sSto2, wp_nilP, wp_consP, wp_dDisp0]
    exact ⟨_, rfl, rfl⟩
  · rw [List.length_map]; exact hz
  · intro d hd
    obtain ⟨c, hc, rfl⟩ := List.mem_map.mp hd
    refine ⟨_, rfl, ?_⟩
    simp (config := { maxSteps := 3000000 }) only [wp_dC, wp_dV, wp_d1, wp_d2, wp_nilA, wp_consA, wp_dN, wp_bT, wp_bNot, wp_bAnd, wp_bOr, wp_bYes, wp_dIf, wp_dNot, wp_dAnd, wp_dOr, wp_dChain, wp_oNone, wp_oSome, wp_dSl, wp_dUp, wp_itE, wp_itKE, wp_itemsE, wp_valsE, wp_rngE, wp_zipE, wp_dCall, wp_consS, wp_dLm, ws_skip, ws_seq, ws_sSet, ws_sIf, ws_sRet, ws_sExpr, ws_sPar, ws_sAsg, ws_sSto, ws_stoV, ws_bk, ws_ct, List.getElem?_cons_zero, List.getElem?_cons_succ, List.set_cons_zero, List.set_cons_succ, Option.some.injEq, exists_eq_left', exists_eq_left, fillA, backA, List.headD_cons, List.tail_cons, Option.map_some, setL, asgT, true_or, true_and, List.length_cons, List.length_nil, exists_eq', exists_const, gx_lst, gx_tup, gx_add, gx_sub, gx_lt, gx_le, gx_gt, gx_ge, gx_len, gx_lenD, gx_lenS, gx_neg, gx_list, gx_eqI, gx_neI, gx_eqS, gx_neS, gx_itL, gx_itl, gx_itD, gx_items, D.bl.injEq, D.int.injEq, D.lst.injEq, D.tup.injEq, D.dct.injEq, D.str.injEq, and_true, Bool.not_true, Bool.not_false, Bool.false_eq_true, Bool.true_eq_false, if_true, if_false, Bool.not_eq_true', decide_eq_true_eq, decide_eq_false_iff_not, wipeE, not_false_eq_true, wp_dRm, gx_ty, gx_isi, ii_s, ii_l, ii_d, Option.map_some, not_true_eq_false, ws_sSwp, gx_eqIX, gx_neIX, gx_eqSX, gx_neSX, gx_listW, wp_dLmP, ws_sSAug, ws_sSto2, wp_nilP, wp_consP, wp_dDisp0]
    exact ⟨_, in_chr (az_in (h.az c hc)), rfl⟩
  · rw [List.filter_eq_self.mpr fun _ _ => rfl]
    refine ⟨.bl true, ?_, by rfl, rfl, rfl⟩
    rw [List.map_map]
    exact (gAll_map (p := fun _ => true)).trans (by simp)
theorem ok_is_members {ms : List Str} (h : Mems ms) : Wf m_is_members [.lst (sD ms)] fun r ds => r = .bl true ∧ ds = [.lst (sD ms)] := by
  refine wf_sem ?_
  show Ws b_is_members [some _, none, none, none] _ _ _ _
  unfold b_is_members
  have hl : (sD ms).length = ms.length := List.length_map ..
  have h1 : (1 : Int) ≤ (ms.length : Nat) := by have := h.pos; omega
  have h8 : ((ms.length : Nat) : Int) ≤ 12 := by have := h.le; omega
  have hz : (sD ms).length ≤ sizeLine := by rw [hl]; exact Nat.le_trans h.le (by decide)
  simp (config := { maxSteps := 3000000 }) only [wp_dC, wp_dV, wp_d1, wp_d2, wp_nilA, wp_consA, wp_dN, wp_bT, wp_bNot, wp_bAnd, wp_bOr, wp_bYes, wp_dIf, wp_dNot, wp_dAnd, wp_dOr, wp_dChain, wp_oNone, wp_oSome, wp_dSl, wp_dUp, wp_itE, wp_itKE, wp_itemsE, wp_valsE, wp_rngE, wp_zipE, wp_dCall, wp_consS, wp_dLm, ws_skip, ws_seq, ws_sSet, ws_sIf, ws_sRet, ws_sExpr, ws_sPar, ws_sAsg, ws_sSto, ws_stoV, ws_bk, ws_ct, List.getElem?_cons_zero, List.getElem?_cons_succ, List.set_cons_zero, List.set_cons_succ, Option.some.injEq, exists_eq_left', exists_eq_left, fillA, backA, List.headD_cons, List.tail_cons, Option.map_some, setL, asgT, true_or, true_and, List.length_cons, List.length_nil, exists_eq', exists_const, gx_lst, gx_tup, gx_add, gx_sub, gx_lt, gx_le, gx_gt, gx_ge, gx_len, gx_lenD, gx_lenS, gx_neg, gx_list, gx_eqI, gx_neI, gx_eqS, gx_neS, gx_itL, gx_itl, gx_itD, gx_items, D.bl.injEq, D.int.injEq, D.lst.injEq, D.tup.injEq, D.dct.injEq, D.str.injEq, and_true, Bool.not_true, Bool.not_false, Bool.false_eq_true, Bool.true_eq_false, if_true, if_false, Bool.not_eq_true', decide_eq_true_eq, decide_eq_false_iff_not, wipeE, not_false_eq_true, wp_dRm, gx_ty, gx_isi, ii_s, ii_l, ii_d, Option.map_some, not_true_eq_false, ws_sSwp, gx_eqIX, gx_neIX, gx_eqSX, gx_neSX, gx_listW, wp_dLmP, ws_sSAug, ws_sSto2, wp_nilP, wp_consP, wp_dDisp0, hl, h1, h8, decide_true]
  refine wp_dLcM2 (fun _ => true) (fun _ => .bl true) (sD ms) [some (.lst (sD ms)), none, none, none] ?_ hz ?_ ?_
  · simp (config := { maxSteps := 3000000 }) only [wp_dC, wp_dV, wp_d1, wp_d2, wp_nilA, wp_consA, wp_dN, wp_bT, wp_bNot, wp_bAnd, wp_bOr, wp_bYes, wp_dIf, wp_dNot, wp_dAnd, wp_dOr, wp_dChain, wp_oNone, wp_oSome, wp_dSl, wp_dUp, wp_itE, wp_itKE, wp_itemsE, wp_valsE, wp_rngE, wp_zipE, wp_dCall, wp_consS, wp_dLm, ws_skip, ws_seq, ws_sSet, ws_sIf, ws_sRet, ws_sExpr, ws_sPar, ws_sAsg, ws_sSto, ws_stoV, ws_bk, ws_ct, List.getElem?_cons_zero, List.getElem?_cons_succ, List.set_cons_zero, List.set_cons_succ, Option.some.injEq, exists_eq_left', exists_eq_left, fillA, backA, List.headD_cons, List.tail_cons, Option.map_some, setL, asgT, true_or, true_and, List.length_cons, List.length_nil, exists_eq', exists_const, gx_lst, gx_tup, gx_add, gx_sub, gx_lt, gx_le, gx_gt, gx_ge, gx_len, gx_lenD, gx_lenS, gx_neg, gx_list, gx_eqI, gx_neI, gx_eqS, gx_neS, gx_itL, gx_itl, gx_itD, gx_items, D.bl.injEq, D.int.injEq, D.lst.injEq, D.tup.injEq, D.dct.injEq, D.str.injEq, and_true, Bool.not_true, Bool.not_false, Bool.false_eq_true, Bool.true_eq_false, if_true, if_false, Bool.not_eq_true', decide_eq_true_eq, decide_eq_false_iff_not, wipeE, not_false_eq_true, wp_dRm, gx_ty, gx_isi, ii_s, ii_l, ii_d, Option.map_some, not_true_eq_false, ws_sSwp, gx_eqIX, gx_neIX, gx_eqSX, gx_neSX, gx_listW, wp_dLmP, ws_sSAug, ws_sSto2, wp_nilP, wp_consP, wp_dDisp0]
  · intro d hd
    obtain ⟨s, hs, rfl⟩ := List.mem_map.mp hd
    refine ⟨_, rfl, ?_⟩
    simp (config := { maxSteps := 3000000 }) only [wp_dC, wp_dV, wp_d1, wp_d2, wp_nilA, wp_consA, wp_dN, wp_bT, wp_bNot, wp_bAnd, wp_bOr, wp_bYes, wp_dIf, wp_dNot, wp_dAnd, wp_dOr, wp_dChain, wp_oNone, wp_oSome, wp_dSl, wp_dUp, wp_itE, wp_itKE, wp_itemsE, wp_valsE, wp_rngE, wp_zipE, wp_dCall, wp_consS, wp_dLm, ws_skip, ws_seq, ws_sSet, ws_sIf, ws_sRet, ws_sExpr, ws_sPar, ws_sAsg, ws_sSto, ws_stoV, ws_bk, ws_ct, List.getElem?_cons_zero, List.getElem?_cons_succ, List.set_cons_zero, List.set_cons_succ, Option.some.injEq, exists_eq_left', exists_eq_left, fillA, backA, List.headD_cons, List.tail_cons, Option.map_some, setL, asgT, true_or, true_and, List.length_cons, List.length_nil, exists_eq', exists_const, gx_lst, gx_tup, gx_add, gx_sub, gx_lt, gx_le, gx_gt, gx_ge, gx_len, gx_lenD, gx_lenS, gx_neg, gx_list, gx_eqI, gx_neI, gx_eqS, gx_neS, gx_itL, gx_itl, gx_itD, gx_items, D.bl.injEq, D.int.injEq, D.lst.injEq, D.tup.injEq, D.dct.injEq, D.str.injEq, and_true, Bool.not_true, Bool.not_false, Bool.false_eq_true, Bool.true_eq_false, if_true, if_false, Bool.not_eq_true', decide_eq_true_eq, decide_eq_false_iff_not, wipeE, not_false_eq_true, wp_dRm, gx_ty, gx_isi, ii_s, ii_l, ii_d, Option.map_some, not_true_eq_false, ws_sSwp, gx_eqIX, gx_neIX, gx_eqSX, gx_neSX, gx_listW, wp_dLmP, ws_sSAug, ws_sSto2, wp_nilP, wp_consP, wp_dDisp0]
    exact (ok_is_name (h.nm s hs)).mono fun r ds ⟨e1, e2⟩ => e1
  · rw [List.filter_eq_self.mpr fun _ _ => rfl]
    refine ⟨.bl true, ?_, ?_⟩
    · rw [List.map_map]
      exact (gAll_map (p := fun _ => true)).trans (by simp)
    simp (config := { maxSteps := 3000000 }) only [wp_dC, wp_dV, wp_d1, wp_d2, wp_nilA, wp_consA, wp_dN, wp_bT, wp_bNot, wp_bAnd, wp_bOr, wp_bYes, wp_dIf, wp_dNot, wp_dAnd, wp_dOr, wp_dChain, wp_oNone, wp_oSome, wp_dSl, wp_dUp, wp_itE, wp_itKE, wp_itemsE, wp_valsE, wp_rngE, wp_zipE, wp_dCall, wp_consS, wp_dLm, ws_skip, ws_seq, ws_sSet, ws_sIf, ws_sRet, ws_sExpr, ws_sPar, ws_sAsg, ws_sSto, ws_stoV, ws_bk, ws_ct, List.getElem?_cons_zero, List.getElem?_cons_succ, List.set_cons_zero, List.set_cons_succ, Option.some.injEq, exists_eq_left', exists_eq_left, fillA, backA, List.headD_cons, List.tail_cons, Option.map_some, setL, asgT, true_or, true_and, List.length_cons, List.length_nil, exists_eq', exists_const, gx_lst, gx_tup, gx_add, gx_sub, gx_lt, gx_le, gx_gt, gx_ge, gx_len, gx_lenD, gx_lenS, gx_neg, gx_list, gx_eqI, gx_neI, gx_eqS, gx_neS, gx_itL, gx_itl, gx_itD, gx_items, D.bl.injEq, D.int.injEq, D.lst.injEq, D.tup.injEq, D.dct.injEq, D.str.injEq, and_true, Bool.not_true, Bool.not_false, Bool.false_eq_true, Bool.true_eq_false, if_true, if_false, Bool.not_eq_true', decide_eq_true_eq, decide_eq_false_iff_not, wipeE, not_false_eq_true, wp_dRm, gx_ty, gx_isi, ii_s, ii_l, ii_d, Option.map_some, not_true_eq_false, ws_sSwp, gx_eqIX, gx_neIX, gx_eqSX, gx_neSX, gx_listW, wp_dLmP, ws_sSAug, ws_sSto2, wp_nilP, wp_consP, wp_dDisp0]
    refine wp_dLcM2 (fun _ => true) (fun _ => .bl true) (((sD ms).zip (sD ms).tail).map fun q => .tup [q.1, q.2]) [some (.lst (sD ms)), none, none, none] ?_ ?_ ?_ ?_
    · simp (config := { maxSteps := 3000000 }) only [wp_dC, wp_dV, wp_d1, wp_d2, wp_nilA, wp_consA, wp_dN, wp_bT, wp_bNot, wp_bAnd, wp_bOr, wp_bYes, wp_dIf, wp_dNot, wp_dAnd, wp_dOr, wp_dChain, wp_oNone, wp_oSome, wp_dSl, wp_dUp, wp_itE, wp_itKE, wp_itemsE, wp_valsE, wp_rngE, wp_zipE, wp_dCall, wp_consS, wp_dLm, ws_skip, ws_seq, ws_sSet, ws_sIf, ws_sRet, ws_sExpr, ws_sPar, ws_sAsg, ws_sSto, ws_stoV, ws_bk, ws_ct, List.getElem?_cons_zero, List.getElem?_cons_succ, List.set_cons_zero, List.set_cons_succ, Option.some.injEq, exists_eq_left', exists_eq_left, fillA, backA, List.headD_cons, List.tail_cons, Option.map_some, setL, asgT, true_or, true_and, List.length_cons, List.length_nil, exists_eq', exists_const, gx_lst, gx_tup, gx_add, gx_sub, gx_lt, gx_le, gx_gt, gx_ge, gx_len, gx_lenD, gx_lenS, gx_neg, gx_list, gx_eqI, gx_neI, gx_eqS, gx_neS, gx_itL, gx_itl, gx_itD, gx_items, D.bl.injEq, D.int.injEq, D.lst.injEq, D.tup.injEq, D.dct.injEq, D.str.injEq, and_true, Bool.not_true, Bool.not_false, Bool.false_eq_true, Bool.true_eq_false, if_true, if_false, Bool.not_eq_true', decide_eq_true_eq, decide_eq_false_iff_not, wipeE, not_false_eq_true, wp_dRm, gx_ty, gx_isi, ii_s, ii_l, ii_d, Option.map_some, not_true_eq_false, ws_sSwp, gx_eqIX, gx_neIX, gx_eqSX, gx_neSX, gx_listW, wp_dLmP, ws_sSAug, ws_sSto2, wp_nilP, wp_consP, wp_dDisp0, cut_1, zip_is]
    · rw [List.length_map, List.length_zip]
      exact Nat.le_trans (Nat.min_le_left _ _) hz
    · intro d hd
      obtain ⟨q, hq, rfl⟩ := List.mem_map.mp hd
      obtain ⟨a, b, hab, rfl⟩ : ∃ a b : Str, a.cps.toList < b.cps.toList ∧ q = (.str a, .str b) := by
        have up := h.up
        clear hl h1 h8 hz h hd
        induction ms with
        | nil => cases hq
        | cons x ms ih =>
          cases ms with
          | nil => cases hq
          | cons y ms =>
            rcases List.mem_cons.mp (show q ∈ (D.str x, D.str y) :: (sD (y :: ms)).zip (sD (y :: ms)).tail from hq) with rfl | hq
            · exact ⟨x, y, (List.pairwise_cons.mp up).1 y List.mem_cons_self, rfl⟩
            · exact ih hq (List.pairwise_cons.mp up).2
      refine ⟨_, rfl, ?_⟩
      simp (config := { maxSteps := 3000000 }) only [wp_dC, wp_dV, wp_d1, wp_d2, wp_nilA, wp_consA, wp_dN, wp_bT, wp_bNot, wp_bAnd, wp_bOr, wp_bYes, wp_dIf, wp_dNot, wp_dAnd, wp_dOr, wp_dChain, wp_oNone, wp_oSome, wp_dSl, wp_dUp, wp_itE, wp_itKE, wp_itemsE, wp_valsE, wp_rngE, wp_zipE, wp_dCall, wp_consS, wp_dLm, ws_skip, ws_seq, ws_sSet, ws_sIf, ws_sRet, ws_sExpr, ws_sPar, ws_sAsg, ws_sSto, ws_stoV, ws_bk, ws_ct, List.getElem?_cons_zero, List.getElem?_cons_succ, List.set_cons_zero, List.set_cons_succ, Option.some.injEq, exists_eq_left', exists_eq_left, fillA, backA, List.headD_cons, List.tail_cons, Option.map_some, setL, asgT, true_or, true_and, List.length_cons, List.length_nil, exists_eq', exists_const, gx_lst, gx_tup, gx_add, gx_sub, gx_lt, gx_le, gx_gt, gx_ge, gx_len, gx_lenD, gx_lenS, gx_neg, gx_list, gx_eqI, gx_neI, gx_eqS, gx_neS, gx_itL, gx_itl, gx_itD, gx_items, D.bl.injEq, D.int.injEq, D.lst.injEq, D.tup.injEq, D.dct.injEq, D.str.injEq, and_true, Bool.not_true, Bool.not_false, Bool.false_eq_true, Bool.true_eq_false, if_true, if_false, Bool.not_eq_true', decide_eq_true_eq, decide_eq_false_iff_not, wipeE, not_false_eq_true, wp_dRm, gx_ty, gx_isi, ii_s, ii_l, ii_d, Option.map_some, not_true_eq_false, ws_sSwp, gx_eqIX, gx_neIX, gx_eqSX, gx_neSX, gx_listW, wp_dLmP, ws_sSAug, ws_sSto2, wp_nilP, wp_consP, wp_dDisp0]
      exact ⟨_, rfl, by rw [show ltS a b = true from decide_eq_true hab]⟩
    · rw [List.filter_eq_self.mpr fun _ _ => rfl]
      refine ⟨.bl true, ?_, by rfl, rfl, rfl⟩
      rw [List.map_map]
      exact (gAll_map (p := fun _ => true)).trans (by simp)
theorem ok_need_members {ms : List Str} (h : Mems ms) : Wf m_need_members [.lst (sD ms)] fun r ds => r = .non ∧ ds = [.lst (sD ms)] := by
  refine wf_sem ?_
  show Ws b_need_members [some _] _ _ _ _
  unfold b_need_members
  simp (config := { maxSteps := 3000000 }) only [wp_dC, wp_dV, wp_d1, wp_d2, wp_nilA, wp_consA, wp_dN, wp_bT, wp_bNot, wp_bAnd, wp_bOr, wp_bYes, wp_dIf, wp_dNot, wp_dAnd, wp_dOr, wp_dChain, wp_oNone, wp_oSome, wp_dSl, wp_dUp, wp_itE, wp_itKE, wp_itemsE, wp_valsE, wp_rngE, wp_zipE, wp_dCall, wp_consS, wp_dLm, ws_skip, ws_seq, ws_sSet, ws_sIf, ws_sRet, ws_sExpr, ws_sPar, ws_sAsg, ws_sSto, ws_stoV, ws_bk, ws_ct, List.getElem?_cons_zero, List.getElem?_cons_succ, List.set_cons_zero, List.set_cons_succ, Option.some.injEq, exists_eq_left', exists_eq_left, fillA, backA, List.headD_cons, List.tail_cons, Option.map_some, setL, asgT, true_or, true_and, List.length_cons, List.length_nil, exists_eq', exists_const, gx_lst, gx_tup, gx_add, gx_sub, gx_lt, gx_le, gx_gt, gx_ge, gx_len, gx_lenD, gx_lenS, gx_neg, gx_list, gx_eqI, gx_neI, gx_eqS, gx_neS, gx_itL, gx_itl, gx_itD, gx_items, D.bl.injEq, D.int.injEq, D.lst.injEq, D.tup.injEq, D.dct.injEq, D.str.injEq, and_true, Bool.not_true, Bool.not_false, Bool.false_eq_true, Bool.true_eq_false, if_true, if_false, Bool.not_eq_true', decide_eq_true_eq, decide_eq_false_iff_not, wipeE, not_false_eq_true, wp_dRm, gx_ty, gx_isi, ii_s, ii_l, ii_d, Option.map_some, not_true_eq_false, ws_sSwp, gx_eqIX, gx_neIX, gx_eqSX, gx_neSX, gx_listW, wp_dLmP, ws_sSAug, ws_sSto2, wp_nilP, wp_consP, wp_dDisp0]
  refine (ok_is_members h).mono fun r ds ⟨e1, e2⟩ => ?_
  subst e1
  simp (config := { maxSteps := 3000000 }) only [wp_dC, wp_dV, wp_d1, wp_d2, wp_nilA, wp_consA, wp_dN, wp_bT, wp_bNot, wp_bAnd, wp_bOr, wp_bYes, wp_dIf, wp_dNot, wp_dAnd, wp_dOr, wp_dChain, wp_oNone, wp_oSome, wp_dSl, wp_dUp, wp_itE, wp_itKE, wp_itemsE, wp_valsE, wp_rngE, wp_zipE, wp_dCall, wp_consS, wp_dLm, ws_skip, ws_seq, ws_sSet, ws_sIf, ws_sRet, ws_sExpr, ws_sPar, ws_sAsg, ws_sSto, ws_stoV, ws_bk, ws_ct, List.getElem?_cons_zero, List.getElem?_cons_succ, List.set_cons_zero, List.set_cons_succ, Option.some.injEq, exists_eq_left', exists_eq_left, fillA, backA, List.headD_cons, List.tail_cons, Option.map_some, setL, asgT, true_or, true_and, List.length_cons, List.length_nil, exists_eq', exists_const, gx_lst, gx_tup, gx_add, gx_sub, gx_lt, gx_le, gx_gt, gx_ge, gx_len, gx_lenD, gx_lenS, gx_neg, gx_list, gx_eqI, gx_neI, gx_eqS, gx_neS, gx_itL, gx_itl, gx_itD, gx_items, D.bl.injEq, D.int.injEq, D.lst.injEq, D.tup.injEq, D.dct.injEq, D.str.injEq, and_true, Bool.not_true, Bool.not_false, Bool.false_eq_true, Bool.true_eq_false, if_true, if_false, Bool.not_eq_true', decide_eq_true_eq, decide_eq_false_iff_not, wipeE, not_false_eq_true, wp_dRm, gx_ty, gx_isi, ii_s, ii_l, ii_d, Option.map_some, not_true_eq_false, ws_sSwp, gx_eqIX, gx_neIX, gx_eqSX, gx_neSX, gx_listW, wp_dLmP, ws_sSAug, ws_sSto2, wp_nilP, wp_consP, wp_dDisp0]
  exact ⟨by rfl, rfl⟩
theorem ok_is_member {ms : List Str} {x : Str} : Wf m_is_member [.lst (sD ms), .str x] fun r ds => r = .bl (decide (x ∈ ms)) ∧ ds = [.lst (sD ms), .str x] := by
  refine wf_sem ?_
  show Ws b_is_member [some _, some _] _ _ _ _
  unfold b_is_member
  simp (config := { maxSteps := 3000000 }) only [wp_dC, wp_dV, wp_d1, wp_d2, wp_nilA, wp_consA, wp_dN, wp_bT, wp_bNot, wp_bAnd, wp_bOr, wp_bYes, wp_dIf, wp_dNot, wp_dAnd, wp_dOr, wp_dChain, wp_oNone, wp_oSome, wp_dSl, wp_dUp, wp_itE, wp_itKE, wp_itemsE, wp_valsE, wp_rngE, wp_zipE, wp_dCall, wp_consS, wp_dLm, ws_skip, ws_seq, ws_sSet, ws_sIf, ws_sRet, ws_sExpr, ws_sPar, ws_sAsg, ws_sSto, ws_stoV, ws_bk, ws_ct, List.getElem?_cons_zero, List.getElem?_cons_succ, List.set_cons_zero, List.set_cons_succ, Option.some.injEq, exists_eq_left', exists_eq_left, fillA, backA, List.headD_cons, List.tail_cons, Option.map_some, setL, asgT, true_or, true_and, List.length_cons, List.length_nil, exists_eq', exists_const, gx_lst, gx_tup, gx_add, gx_sub, gx_lt, gx_le, gx_gt, gx_ge, gx_len, gx_lenD, gx_lenS, gx_neg, gx_list, gx_eqI, gx_neI, gx_eqS, gx_neS, gx_itL, gx_itl, gx_itD, gx_items, D.bl.injEq, D.int.injEq, D.lst.injEq, D.tup.injEq, D.dct.injEq, D.str.injEq, and_true, Bool.not_true, Bool.not_false, Bool.false_eq_true, Bool.true_eq_false, if_true, if_false, Bool.not_eq_true', decide_eq_true_eq, decide_eq_false_iff_not, wipeE, not_false_eq_true, wp_dRm, gx_ty, gx_isi, ii_s, ii_l, ii_d, Option.map_some, not_true_eq_false, ws_sSwp, gx_eqIX, gx_neIX, gx_eqSX, gx_neSX, gx_listW, wp_dLmP, ws_sSAug, ws_sSto2, wp_nilP, wp_consP, wp_dDisp0, gx_in]
  exact ⟨by rfl, rfl⟩
theorem ok_need_member {ms : List Str} {x : Str} (h : x ∈ ms) : Wf m_need_member [.lst (sD ms), .str x] fun r ds => r = .non ∧ ds = [.lst (sD ms), .str x] := by
  refine wf_sem ?_
  show Ws b_need_member [some _, some _] _ _ _ _
  unfold b_need_member
  simp (config := { maxSteps := 3000000 }) only [wp_dC, wp_dV, wp_d1, wp_d2, wp_nilA, wp_consA, wp_dN, wp_bT, wp_bNot, wp_bAnd, wp_bOr, wp_bYes, wp_dIf, wp_dNot, wp_dAnd, wp_dOr, wp_dChain, wp_oNone, wp_oSome, wp_dSl, wp_dUp, wp_itE, wp_itKE, wp_itemsE, wp_valsE, wp_rngE, wp_zipE, wp_dCall, wp_consS, wp_dLm, ws_skip, ws_seq, ws_sSet, ws_sIf, ws_sRet, ws_sExpr, ws_sPar, ws_sAsg, ws_sSto, ws_stoV, ws_bk, ws_ct, List.getElem?_cons_zero, List.getElem?_cons_succ, List.set_cons_zero, List.set_cons_succ, Option.some.injEq, exists_eq_left', exists_eq_left, fillA, backA, List.headD_cons, List.tail_cons, Option.map_some, setL, asgT, true_or, true_and, List.length_cons, List.length_nil, exists_eq', exists_const, gx_lst, gx_tup, gx_add, gx_sub, gx_lt, gx_le, gx_gt, gx_ge, gx_len, gx_lenD, gx_lenS, gx_neg, gx_list, gx_eqI, gx_neI, gx_eqS, gx_neS, gx_itL, gx_itl, gx_itD, gx_items, D.bl.injEq, D.int.injEq, D.lst.injEq, D.tup.injEq, D.dct.injEq, D.str.injEq, and_true, Bool.not_true, Bool.not_false, Bool.false_eq_true, Bool.true_eq_false, if_true, if_false, Bool.not_eq_true', decide_eq_true_eq, decide_eq_false_iff_not, wipeE, not_false_eq_true, wp_dRm, gx_ty, gx_isi, ii_s, ii_l, ii_d, Option.map_some, not_true_eq_false, ws_sSwp, gx_eqIX, gx_neIX, gx_eqSX, gx_neSX, gx_listW, wp_dLmP, ws_sSAug, ws_sSto2, wp_nilP, wp_consP, wp_dDisp0]
  refine ok_is_member.mono fun r ds ⟨e1, e2⟩ => ?_
  subst e1
  simp (config := { maxSteps := 3000000 }) only [wp_dC, wp_dV, wp_d1, wp_d2, wp_nilA, wp_consA, wp_dN, wp_bT, wp_bNot, wp_bAnd, wp_bOr, wp_bYes, wp_dIf, wp_dNot, wp_dAnd, wp_dOr, wp_dChain, wp_oNone, wp_oSome, wp_dSl, wp_dUp, wp_itE, wp_itKE, wp_itemsE, wp_valsE, wp_rngE, wp_zipE, wp_dCall, wp_consS, wp_dLm, ws_skip, ws_seq, ws_sSet, ws_sIf, ws_sRet, ws_sExpr, ws_sPar, ws_sAsg, ws_sSto, ws_stoV, ws_bk, ws_ct, List.getElem?_cons_zero, List.getElem?_cons_succ, List.set_cons_zero, List.set_cons_succ, Option.some.injEq, exists_eq_left', exists_eq_left, fillA, backA, List.headD_cons, List.tail_cons, Option.map_some, setL, asgT, true_or, true_and, List.length_cons, List.length_nil, exists_eq', exists_const, gx_lst, gx_tup, gx_add, gx_sub, gx_lt, gx_le, gx_gt, gx_ge, gx_len, gx_lenD, gx_lenS, gx_neg, gx_list, gx_eqI, gx_neI, gx_eqS, gx_neS, gx_itL, gx_itl, gx_itD, gx_items, D.bl.injEq, D.int.injEq, D.lst.injEq, D.tup.injEq, D.dct.injEq, D.str.injEq, and_true, Bool.not_true, Bool.not_false, Bool.false_eq_true, Bool.true_eq_false, if_true, if_false, Bool.not_eq_true', decide_eq_true_eq, decide_eq_false_iff_not, wipeE, not_false_eq_true, wp_dRm, gx_ty, gx_isi, ii_s, ii_l, ii_d, Option.map_some, not_true_eq_false, ws_sSwp, gx_eqIX, gx_neIX, gx_eqSX, gx_neSX, gx_listW, wp_dLmP, ws_sSAug, ws_sSto2, wp_nilP, wp_consP, wp_dDisp0, h, decide_true]
  exact ⟨by rfl, rfl⟩
/-! ### the lists of pairs, dicts of lists, slices -/
/-- the lists of pairs -/
def gq (l : List (Str × Str)) (m : Str) : List Str := (l.filter fun q => decide (q.2 = m)).map (·.1)
theorem gq_snoc {l : List (Str × Str)} {q : Str × Str} {m : Str} : gq (l ++ [q]) m = if m = q.2 then gq l m ++ [q.1] else gq l m := by
  unfold gq
  rw [List.filter_append, List.map_append]
  by_cases h : m = q.2
  · subst h; simp
  · have h2 : ¬ q.2 = m := fun z => h z.symm
    simp [h, h2]
abbrev gD (ms : List Str) (L : Str → List Str) : D := .dct (ms.map fun m => (.inr m, .lst (sD (L m))))
theorem tl_sD {h : List Str} : (sD h).tail = sD h.tail := by cases h <;> rfl
theorem zip_sD {a b : List Str} : (((sD a).zip (sD b)).map fun q => D.tup [q.1, q.2]) = (a.zip b).map fun q => D.tup [.str q.1, .str q.2] := by
  induction a generalizing b with
  | nil => rfl
  | cons x a ih =>
    cases b with
    | nil => rfl
    | cons y b =>
      show D.tup [.str x, .str y] :: _ = D.tup [.str x, .str y] :: _
      exact congrArg _ ih
theorem gv_len {h : List Str} {m : Str} : (gv h m).length ≤ h.length := by
  unfold gv
  rw [List.length_map]
  refine Nat.le_trans (List.length_filter_le ..) ?_
  rw [List.length_zip]
  exact Nat.min_le_left _ _
theorem app_gD {ms : List Str} {L : Str → List Str} {g x : Str} (nd : ms.Nodup) (hg : g ∈ ms) (hl : (L g).length < 100000) : chD (gD ms L) (.str g) = some (sD (L g)) ∧ fApp (sD (L g)) [.str x] = some (.non, sD (L g ++ [x])) ∧ stD (gD ms L) (.str g) (sD (L g ++ [x])) = some (gD ms fun m => if m = g then L m ++ [x] else L m) := by
  have zl : 1000000 < sizeLine := by decide
  have ev := valD_m (v := fun m => D.lst (sD (L m))) hg
  refine ⟨?_, ?_, ?_⟩
  · show (match keyOf (.str g) with
      | some k => match valD (ms.map fun m => ((.inr m : Key), D.lst (sD (L m)))) k with
        | some (.lst ds) => some ds
        | _ => none
      | none => none) = _
    show (match valD (ms.map fun m => ((.inr m : Key), D.lst (sD (L m)))) (.inr g) with
        | some (.lst ds) => some ds
        | _ => none) = _
    rw [ev]
  · rw [app_is (by rw [List.length_map]; omega), sD_snoc]
  · show some (D.dct (updK (ms.map fun m => ((.inr m : Key), D.lst (sD (L m)))) (.inr g) (.lst (sD (L g ++ [x]))))) = _
    rw [updM nd]
    refine congrArg some (congrArg D.dct (List.map_congr_left fun m _ => ?_))
    by_cases e : m = g
    · subst e; simp
    · simp [e]
theorem cut_to' {ds : List D} {k : Nat} : gSl (.lst ds) none (some (k : Nat)) = some (.lst (ds.take k)) := by
  show some (D.lst (PD.cutD ds none (some (k : Nat)))) = _
  unfold PD.cutD
  rw [HT.sIx_none, HT.sIx_nat, List.drop_zero, Nat.sub_zero]
  rcases Nat.le_total k ds.length with h | h
  · rw [Nat.min_eq_left h]
  · rw [Nat.min_eq_right h, List.take_of_length_le h, List.take_length]
theorem cut_from' {ds : List D} {k : Nat} : gSl (.lst ds) (some (k : Nat)) none = some (.lst (ds.drop k)) := by
  show some (D.lst (PD.cutD ds (some (k : Nat)) none)) = _
  unfold PD.cutD
  rw [HT.sIx_none, HT.sIx_nat]
  rcases Nat.le_total k ds.length with h | h
  · rw [Nat.min_eq_left h, List.take_of_length_le (by rw [List.length_drop]; omega)]
  · rw [Nat.min_eq_right h, List.drop_of_length_le h, List.drop_of_length_le (Nat.le_refl _), Nat.sub_self, List.take_nil]
/-! ### is_history -/
theorem ok_is_history {ms ss : List Str} (hM : Mems ms) (ok : ∀ s ∈ ss, PyData.strOk s = true) (hl : ss.length ≤ 100000) : Wf m_is_history [.lst (sD ms), .lst (sD ss)] fun r _ => ∃ b, r = .bl b ∧ (b = true ↔ ss ≠ [] ∧ (∀ s ∈ ss, s ∈ ms) ∧ Hs ss) := by
  refine wf_sem ?_
  show Ws b_is_history [some _, some _, none, none] _ _ _ _
  unfold b_is_history
  have zl : 200000 < sizeLine := by decide
  have em : (sD ss).length = ss.length := List.length_map ..
  have en : gEqX (.lst (sD ss)) (.lst []) = some (.bl (decide (ss = []))) := eqL (ys := []) ok fun _ z => by cases z
  simp (config := { maxSteps := 3000000 }) only [wp_dC, wp_dV, wp_d1, wp_d2, wp_nilA, wp_consA, wp_dN, wp_bT, wp_bNot, wp_bAnd, wp_bOr, wp_bYes, wp_dIf, wp_dNot, wp_dAnd, wp_dOr, wp_dChain, wp_oNone, wp_oSome, wp_dSl, wp_dUp, wp_itE, wp_itKE, wp_itemsE, wp_valsE, wp_rngE, wp_zipE, wp_dCall, wp_consS, wp_dLm, ws_skip, ws_seq, ws_sSet, ws_sIf, ws_sRet, ws_sExpr, ws_sPar, ws_sAsg, ws_sSto, ws_stoV, ws_bk, ws_ct, List.getElem?_cons_zero, List.getElem?_cons_succ, List.set_cons_zero, List.set_cons_succ, Option.some.injEq, exists_eq_left', exists_eq_left, fillA, backA, List.headD_cons, List.tail_cons, Option.map_some, setL, asgT, true_or, true_and, List.length_cons, List.length_nil, exists_eq', exists_const, gx_lst, gx_tup, gx_add, gx_sub, gx_lt, gx_le, gx_gt, gx_ge, gx_len, gx_lenD, gx_lenS, gx_neg, gx_list, gx_eqI, gx_neI, gx_eqS, gx_neS, gx_itL, gx_itl, gx_itD, gx_items, D.bl.injEq, D.int.injEq, D.lst.injEq, D.tup.injEq, D.dct.injEq, D.str.injEq, and_true, Bool.not_true, Bool.not_false, Bool.false_eq_true, Bool.true_eq_false, if_true, if_false, Bool.not_eq_true', decide_eq_true_eq, decide_eq_false_iff_not, wipeE, not_false_eq_true, wp_dRm, gx_ty, gx_isi, ii_s, ii_l, ii_d, Option.map_some, not_true_eq_false, ws_sSwp, gx_eqIX, gx_neIX, gx_eqSX, gx_neSX, gx_listW, wp_dLmP, ws_sSAug, ws_sSto2, wp_nilP, wp_consP, wp_dDisp0]
  refine (ok_need_members hM).mono fun r _ ⟨e1, _⟩ => ?_
  simp (config := { maxSteps := 3000000 }) only [wp_dC, wp_dV, wp_d1, wp_d2, wp_nilA, wp_consA, wp_dN, wp_bT, wp_bNot, wp_bAnd, wp_bOr, wp_bYes, wp_dIf, wp_dNot, wp_dAnd, wp_dOr, wp_dChain, wp_oNone, wp_oSome, wp_dSl, wp_dUp, wp_itE, wp_itKE, wp_itemsE, wp_valsE, wp_rngE, wp_zipE, wp_dCall, wp_consS, wp_dLm, ws_skip, ws_seq, ws_sSet, ws_sIf, ws_sRet, ws_sExpr, ws_sPar, ws_sAsg, ws_sSto, ws_stoV, ws_bk, ws_ct, List.getElem?_cons_zero, List.getElem?_cons_succ, List.set_cons_zero, List.set_cons_succ, Option.some.injEq, exists_eq_left', exists_eq_left, fillA, backA, List.headD_cons, List.tail_cons, Option.map_some, setL, asgT, true_or, true_and, List.length_cons, List.length_nil, exists_eq', exists_const, gx_lst, gx_tup, gx_add, gx_sub, gx_lt, gx_le, gx_gt, gx_ge, gx_len, gx_lenD, gx_lenS, gx_neg, gx_list, gx_eqI, gx_neI, gx_eqS, gx_neS, gx_itL, gx_itl, gx_itD, gx_items, D.bl.injEq, D.int.injEq, D.lst.injEq, D.tup.injEq, D.dct.injEq, D.str.injEq, and_true, Bool.not_true, Bool.not_false, Bool.false_eq_true, Bool.true_eq_false, if_true, if_false, Bool.not_eq_true', decide_eq_true_eq, decide_eq_false_iff_not, wipeE, not_false_eq_true, wp_dRm, gx_ty, gx_isi, ii_s, ii_l, ii_d, Option.map_some, not_true_eq_false, ws_sSwp, gx_eqIX, gx_neIX, gx_eqSX, gx_neSX, gx_listW, wp_dLmP, ws_sSAug, ws_sSto2, wp_nilP, wp_consP, wp_dDisp0, en]
  by_cases c0 : ss = []
  · simp (config := { maxSteps := 3000000 }) only [wp_dC, wp_dV, wp_d1, wp_d2, wp_nilA, wp_consA, wp_dN, wp_bT, wp_bNot, wp_bAnd, wp_bOr, wp_bYes, wp_dIf, wp_dNot, wp_dAnd, wp_dOr, wp_dChain, wp_oNone, wp_oSome, wp_dSl, wp_dUp, wp_itE, wp_itKE, wp_itemsE, wp_valsE, wp_rngE, wp_zipE, wp_dCall, wp_consS, wp_dLm, ws_skip, ws_seq, ws_sSet, ws_sIf, ws_sRet, ws_sExpr, ws_sPar, ws_sAsg, ws_sSto, ws_stoV, ws_bk, ws_ct, List.getElem?_cons_zero, List.getElem?_cons_succ, List.set_cons_zero, List.set_cons_succ, Option.some.injEq, exists_eq_left', exists_eq_left, fillA, backA, List.headD_cons, List.tail_cons, Option.map_some, setL, asgT, true_or, true_and, List.length_cons, List.length_nil, exists_eq', exists_const, gx_lst, gx_tup, gx_add, gx_sub, gx_lt, gx_le, gx_gt, gx_ge, gx_len, gx_lenD, gx_lenS, gx_neg, gx_list, gx_eqI, gx_neI, gx_eqS, gx_neS, gx_itL, gx_itl, gx_itD, gx_items, D.bl.injEq, D.int.injEq, D.lst.injEq, D.tup.injEq, D.dct.injEq, D.str.injEq, and_true, Bool.not_true, Bool.not_false, Bool.false_eq_true, Bool.true_eq_false, if_true, if_false, Bool.not_eq_true', decide_eq_true_eq, decide_eq_false_iff_not, wipeE, not_false_eq_true, wp_dRm, gx_ty, gx_isi, ii_s, ii_l, ii_d, Option.map_some, not_true_eq_false, ws_sSwp, gx_eqIX, gx_neIX, gx_eqSX, gx_neSX, gx_listW, wp_dLmP, ws_sSAug, ws_sSto2, wp_nilP, wp_consP, wp_dDisp0, c0, decide_true]
    exact ⟨by rfl, ⟨False.elim, fun z => z.1 rfl⟩⟩
  · simp (config := { maxSteps := 3000000 }) only [wp_dC, wp_dV, wp_d1, wp_d2, wp_nilA, wp_consA, wp_dN, wp_bT, wp_bNot, wp_bAnd, wp_bOr, wp_bYes, wp_dIf, wp_dNot, wp_dAnd, wp_dOr, wp_dChain, wp_oNone, wp_oSome, wp_dSl, wp_dUp, wp_itE, wp_itKE, wp_itemsE, wp_valsE, wp_rngE, wp_zipE, wp_dCall, wp_consS, wp_dLm, ws_skip, ws_seq, ws_sSet, ws_sIf, ws_sRet, ws_sExpr, ws_sPar, ws_sAsg, ws_sSto, ws_stoV, ws_bk, ws_ct, List.getElem?_cons_zero, List.getElem?_cons_succ, List.set_cons_zero, List.set_cons_succ, Option.some.injEq, exists_eq_left', exists_eq_left, fillA, backA, List.headD_cons, List.tail_cons, Option.map_some, setL, asgT, true_or, true_and, List.length_cons, List.length_nil, exists_eq', exists_const, gx_lst, gx_tup, gx_add, gx_sub, gx_lt, gx_le, gx_gt, gx_ge, gx_len, gx_lenD, gx_lenS, gx_neg, gx_list, gx_eqI, gx_neI, gx_eqS, gx_neS, gx_itL, gx_itl, gx_itD, gx_items, D.bl.injEq, D.int.injEq, D.lst.injEq, D.tup.injEq, D.dct.injEq, D.str.injEq, and_true, Bool.not_true, Bool.not_false, Bool.false_eq_true, Bool.true_eq_false, if_true, if_false, Bool.not_eq_true', decide_eq_true_eq, decide_eq_false_iff_not, wipeE, not_false_eq_true, wp_dRm, gx_ty, gx_isi, ii_s, ii_l, ii_d, Option.map_some, not_true_eq_false, ws_sSwp, gx_eqIX, gx_neIX, gx_eqSX, gx_neSX, gx_listW, wp_dLmP, ws_sSAug, ws_sSto2, wp_nilP, wp_consP, wp_dDisp0, c0, decide_false]
    refine wp_dLcM2 (fun _ => true) (fun d => match d with | .str s => .bl (decide (s ∈ ms)) | d => d) (sD ss) [some (.lst (sD ms)), some (.lst (sD ss)), none, none] ?_ (by omega) ?_ ?_
    · simp (config := { maxSteps := 3000000 }) only [wp_dC, wp_dV, wp_d1, wp_d2, wp_nilA, wp_consA, wp_dN, wp_bT, wp_bNot, wp_bAnd, wp_bOr, wp_bYes, wp_dIf, wp_dNot, wp_dAnd, wp_dOr, wp_dChain, wp_oNone, wp_oSome, wp_dSl, wp_dUp, wp_itE, wp_itKE, wp_itemsE, wp_valsE, wp_rngE, wp_zipE, wp_dCall, wp_consS, wp_dLm, ws_skip, ws_seq, ws_sSet, ws_sIf, ws_sRet, ws_sExpr, ws_sPar, ws_sAsg, ws_sSto, ws_stoV, ws_bk, ws_ct, List.getElem?_cons_zero, List.getElem?_cons_succ, List.set_cons_zero, List.set_cons_succ, Option.some.injEq, exists_eq_left', exists_eq_left, fillA, backA, List.headD_cons, List.tail_cons, Option.map_some, setL, asgT, true_or, true_and, List.length_cons, List.length_nil, exists_eq', exists_const, gx_lst, gx_tup, gx_add, gx_sub, gx_lt, gx_le, gx_gt, gx_ge, gx_len, gx_lenD, gx_lenS, gx_neg, gx_list, gx_eqI, gx_neI, gx_eqS, gx_neS, gx_itL, gx_itl, gx_itD, gx_items, D.bl.injEq, D.int.injEq, D.lst.injEq, D.tup.injEq, D.dct.injEq, D.str.injEq, and_true, Bool.not_true, Bool.not_false, Bool.false_eq_true, Bool.true_eq_false, if_true, if_false, Bool.not_eq_true', decide_eq_true_eq, decide_eq_false_iff_not, wipeE, not_false_eq_true, wp_dRm, gx_ty, gx_isi, ii_s, ii_l, ii_d, Option.map_some, not_true_eq_false, ws_sSwp, gx_eqIX, gx_neIX, gx_eqSX, gx_neSX, gx_listW, wp_dLmP, ws_sSAug, ws_sSto2, wp_nilP, wp_consP, wp_dDisp0]
    · intro d hd
      obtain ⟨s, hs, rfl⟩ := List.mem_map.mp hd
      refine ⟨_, rfl, ?_⟩
      simp (config := { maxSteps := 3000000 }) only [wp_dC, wp_dV, wp_d1, wp_d2, wp_nilA, wp_consA, wp_dN, wp_bT, wp_bNot, wp_bAnd, wp_bOr, wp_bYes, wp_dIf, wp_dNot, wp_dAnd, wp_dOr, wp_dChain, wp_oNone, wp_oSome, wp_dSl, wp_dUp, wp_itE, wp_itKE, wp_itemsE, wp_valsE, wp_rngE, wp_zipE, wp_dCall, wp_consS, wp_dLm, ws_skip, ws_seq, ws_sSet, ws_sIf, ws_sRet, ws_sExpr, ws_sPar, ws_sAsg, ws_sSto, ws_stoV, ws_bk, ws_ct, List.getElem?_cons_zero, List.getElem?_cons_succ, List.set_cons_zero, List.set_cons_succ, Option.some.injEq, exists_eq_left', exists_eq_left, fillA, backA, List.headD_cons, List.tail_cons, Option.map_some, setL, asgT, true_or, true_and, List.length_cons, List.length_nil, exists_eq', exists_const, gx_lst, gx_tup, gx_add, gx_sub, gx_lt, gx_le, gx_gt, gx_ge, gx_len, gx_lenD, gx_lenS, gx_neg, gx_list, gx_eqI, gx_neI, gx_eqS, gx_neS, gx_itL, gx_itl, gx_itD, gx_items, D.bl.injEq, D.int.injEq, D.lst.injEq, D.tup.injEq, D.dct.injEq, D.str.injEq, and_true, Bool.not_true, Bool.not_false, Bool.false_eq_true, Bool.true_eq_false, if_true, if_false, Bool.not_eq_true', decide_eq_true_eq, decide_eq_false_iff_not, wipeE, not_false_eq_true, wp_dRm, gx_ty, gx_isi, ii_s, ii_l, ii_d, Option.map_some, not_true_eq_false, ws_sSwp, gx_eqIX, gx_neIX, gx_eqSX, gx_neSX, gx_listW, wp_dLmP, ws_sSAug, ws_sSto2, wp_nilP, wp_consP, wp_dDisp0]
      exact ok_is_member.mono fun r _ ⟨e1, _⟩ => e1
    rw [List.filter_eq_self.mpr fun _ _ => rfl, List.map_map]
    refine ⟨_, gAll_map (l := ss) (p := fun s => decide (s ∈ ms)), ?_⟩
    by_cases c1 : (ss.all fun s => decide (s ∈ ms)) = true
    rotate_left
    · rw [Bool.not_eq_true] at c1
      simp (config := { maxSteps := 3000000 }) only [wp_dC, wp_dV, wp_d1, wp_d2, wp_nilA, wp_consA, wp_dN, wp_bT, wp_bNot, wp_bAnd, wp_bOr, wp_bYes, wp_dIf, wp_dNot, wp_dAnd, wp_dOr, wp_dChain, wp_oNone, wp_oSome, wp_dSl, wp_dUp, wp_itE, wp_itKE, wp_itemsE, wp_valsE, wp_rngE, wp_zipE, wp_dCall, wp_consS, wp_dLm, ws_skip, ws_seq, ws_sSet, ws_sIf, ws_sRet, ws_sExpr, ws_sPar, ws_sAsg, ws_sSto, ws_stoV, ws_bk, ws_ct, List.getElem?_cons_zero, List.getElem?_cons_succ, List.set_cons_zero, List.set_cons_succ, Option.some.injEq, exists_eq_left', exists_eq_left, fillA, backA, List.headD_cons, List.tail_cons, Option.map_some, setL, asgT, true_or, true_and, List.length_cons, List.length_nil, exists_eq', exists_const, gx_lst, gx_tup, gx_add, gx_sub, gx_lt, gx_le, gx_gt, gx_ge, gx_len, gx_lenD, gx_lenS, gx_neg, gx_list, gx_eqI, gx_neI, gx_eqS, gx_neS, gx_itL, gx_itl, gx_itD, gx_items, D.bl.injEq, D.int.injEq, D.lst.injEq, D.tup.injEq, D.dct.injEq, D.str.injEq, and_true, Bool.not_true, Bool.not_false, Bool.false_eq_true, Bool.true_eq_false, if_true, if_false, Bool.not_eq_true', decide_eq_true_eq, decide_eq_false_iff_not, wipeE, not_false_eq_true, wp_dRm, gx_ty, gx_isi, ii_s, ii_l, ii_d, Option.map_some, not_true_eq_false, ws_sSwp, gx_eqIX, gx_neIX, gx_eqSX, gx_neSX, gx_listW, wp_dLmP, ws_sSAug, ws_sSto2, wp_nilP, wp_consP, wp_dDisp0, c1]
      refine ⟨by rfl, ⟨False.elim, fun z => ?_⟩⟩
      have : (ss.all fun s => decide (s ∈ ms)) = true := List.all_eq_true.mpr fun s hs => decide_eq_true (z.2.1 s hs)
      rw [c1] at this; cases this
    · simp (config := { maxSteps := 3000000 }) only [wp_dC, wp_dV, wp_d1, wp_d2, wp_nilA, wp_consA, wp_dN, wp_bT, wp_bNot, wp_bAnd, wp_bOr, wp_bYes, wp_dIf, wp_dNot, wp_dAnd, wp_dOr, wp_dChain, wp_oNone, wp_oSome, wp_dSl, wp_dUp, wp_itE, wp_itKE, wp_itemsE, wp_valsE, wp_rngE, wp_zipE, wp_dCall, wp_consS, wp_dLm, ws_skip, ws_seq, ws_sSet, ws_sIf, ws_sRet, ws_sExpr, ws_sPar, ws_sAsg, ws_sSto, ws_stoV, ws_bk, ws_ct, List.getElem?_cons_zero, List.getElem?_cons_succ, List.set_cons_zero, List.set_cons_succ, Option.some.injEq, exists_eq_left', exists_eq_left, fillA, backA, List.headD_cons, List.tail_cons, Option.map_some, setL, asgT, true_or, true_and, List.length_cons, List.length_nil, exists_eq', exists_const, gx_lst, gx_tup, gx_add, gx_sub, gx_lt, gx_le, gx_gt, gx_ge, gx_len, gx_lenD, gx_lenS, gx_neg, gx_list, gx_eqI, gx_neI, gx_eqS, gx_neS, gx_itL, gx_itl, gx_itD, gx_items, D.bl.injEq, D.int.injEq, D.lst.injEq, D.tup.injEq, D.dct.injEq, D.str.injEq, and_true, Bool.not_true, Bool.not_false, Bool.false_eq_true, Bool.true_eq_false, if_true, if_false, Bool.not_eq_true', decide_eq_true_eq, decide_eq_false_iff_not, wipeE, not_false_eq_true, wp_dRm, gx_ty, gx_isi, ii_s, ii_l, ii_d, Option.map_some, not_true_eq_false, ws_sSwp, gx_eqIX, gx_neIX, gx_eqSX, gx_neSX, gx_listW, wp_dLmP, ws_sSAug, ws_sSto2, wp_nilP, wp_consP, wp_dDisp0, c1]
      refine wp_dLcM2 (fun _ => true) (fun d => match d with | .tup [.str a, .str b] => .bl (!decide (a = b)) | d => d) (((sD ss).zip (sD ss).tail).map fun q => .tup [q.1, q.2]) [some (.lst (sD ms)), some (.lst (sD ss)), none, none] ?_ ?_ ?_ ?_
      · simp (config := { maxSteps := 3000000 }) only [wp_dC, wp_dV, wp_d1, wp_d2, wp_nilA, wp_consA, wp_dN, wp_bT, wp_bNot, wp_bAnd, wp_bOr, wp_bYes, wp_dIf, wp_dNot, wp_dAnd, wp_dOr, wp_dChain, wp_oNone, wp_oSome, wp_dSl, wp_dUp, wp_itE, wp_itKE, wp_itemsE, wp_valsE, wp_rngE, wp_zipE, wp_dCall, wp_consS, wp_dLm, ws_skip, ws_seq, ws_sSet, ws_sIf, ws_sRet, ws_sExpr, ws_sPar, ws_sAsg, ws_sSto, ws_stoV, ws_bk, ws_ct, List.getElem?_cons_zero, List.getElem?_cons_succ, List.set_cons_zero, List.set_cons_succ, Option.some.injEq, exists_eq_left', exists_eq_left, fillA, backA, List.headD_cons, List.tail_cons, Option.map_some, setL, asgT, true_or, true_and, List.length_cons, List.length_nil, exists_eq', exists_const, gx_lst, gx_tup, gx_add, gx_sub, gx_lt, gx_le, gx_gt, gx_ge, gx_len, gx_lenD, gx_lenS, gx_neg, gx_list, gx_eqI, gx_neI, gx_eqS, gx_neS, gx_itL, gx_itl, gx_itD, gx_items, D.bl.injEq, D.int.injEq, D.lst.injEq, D.tup.injEq, D.dct.injEq, D.str.injEq, and_true, Bool.not_true, Bool.not_false, Bool.false_eq_true, Bool.true_eq_false, if_true, if_false, Bool.not_eq_true', decide_eq_true_eq, decide_eq_false_iff_not, wipeE, not_false_eq_true, wp_dRm, gx_ty, gx_isi, ii_s, ii_l, ii_d, Option.map_some, not_true_eq_false, ws_sSwp, gx_eqIX, gx_neIX, gx_eqSX, gx_neSX, gx_listW, wp_dLmP, ws_sSAug, ws_sSto2, wp_nilP, wp_consP, wp_dDisp0, cut_1, zip_is]
      · rw [List.length_map, List.length_zip]
        exact Nat.le_trans (Nat.min_le_left _ _) (by omega)
      · intro d hd
        rw [show (sD ss).tail = sD ss.tail from by cases ss <;> rfl, sD, sD, List.zip_map, List.map_map] at hd
        obtain ⟨q, hq, rfl⟩ := List.mem_map.mp hd
        refine ⟨_, rfl, ?_⟩
        simp (config := { maxSteps := 3000000 }) only [wp_dC, wp_dV, wp_d1, wp_d2, wp_nilA, wp_consA, wp_dN, wp_bT, wp_bNot, wp_bAnd, wp_bOr, wp_bYes, wp_dIf, wp_dNot, wp_dAnd, wp_dOr, wp_dChain, wp_oNone, wp_oSome, wp_dSl, wp_dUp, wp_itE, wp_itKE, wp_itemsE, wp_valsE, wp_rngE, wp_zipE, wp_dCall, wp_consS, wp_dLm, ws_skip, ws_seq, ws_sSet, ws_sIf, ws_sRet, ws_sExpr, ws_sPar, ws_sAsg, ws_sSto, ws_stoV, ws_bk, ws_ct, List.getElem?_cons_zero, List.getElem?_cons_succ, List.set_cons_zero, List.set_cons_succ, Option.some.injEq, exists_eq_left', exists_eq_left, fillA, backA, List.headD_cons, List.tail_cons, Option.map_some, setL, asgT, true_or, true_and, List.length_cons, List.length_nil, exists_eq', exists_const, gx_lst, gx_tup, gx_add, gx_sub, gx_lt, gx_le, gx_gt, gx_ge, gx_len, gx_lenD, gx_lenS, gx_neg, gx_list, gx_eqI, gx_neI, gx_eqS, gx_neS, gx_itL, gx_itl, gx_itD, gx_items, D.bl.injEq, D.int.injEq, D.lst.injEq, D.tup.injEq, D.dct.injEq, D.str.injEq, and_true, Bool.not_true, Bool.not_false, Bool.false_eq_true, Bool.true_eq_false, if_true, if_false, Bool.not_eq_true', decide_eq_true_eq, decide_eq_false_iff_not, wipeE, not_false_eq_true, wp_dRm, gx_ty, gx_isi, ii_s, ii_l, ii_d, Option.map_some, not_true_eq_false, ws_sSwp, gx_eqIX, gx_neIX, gx_eqSX, gx_neSX, gx_listW, wp_dLmP, ws_sSAug, ws_sSto2, wp_nilP, wp_consP, wp_dDisp0]
        exact ⟨_, rfl, rfl⟩
      · rw [List.filter_eq_self.mpr fun _ _ => rfl, show (sD ss).tail = sD ss.tail from by cases ss <;> rfl, sD, sD, List.zip_map, List.map_map, List.map_map]
        refine ⟨_, gAll_map (l := ss.zip ss.tail) (p := fun q => !decide (q.1 = q.2)), by rfl, _, rfl, ?_⟩
        rw [List.all_eq_true]
        constructor
        · exact fun h => ⟨c0, fun s hs => of_decide_eq_true (List.all_eq_true.mp c1 s hs), fun q hq => by simpa using h q hq⟩
        · exact fun h q hq => by simpa using h.2.2 q hq
theorem ok_need_history {ms ss : List Str} (hM : Mems ms) (h0 : ss ≠ []) (hm : ∀ s ∈ ss, s ∈ ms) (hs : Hs ss) (hl : ss.length ≤ 100000) : Wf m_need_history [.lst (sD ms), .lst (sD ss)] fun r _ => r = .non := by
  refine wf_sem ?_
  show Ws b_need_history [some _, some _] _ _ _ _
  unfold b_need_history
  simp (config := { maxSteps := 3000000 }) only [wp_dC, wp_dV, wp_d1, wp_d2, wp_nilA, wp_consA, wp_dN, wp_bT, wp_bNot, wp_bAnd, wp_bOr, wp_bYes, wp_dIf, wp_dNot, wp_dAnd, wp_dOr, wp_dChain, wp_oNone, wp_oSome, wp_dSl, wp_dUp, wp_itE, wp_itKE, wp_itemsE, wp_valsE, wp_rngE, wp_zipE, wp_dCall, wp_consS, wp_dLm, ws_skip, ws_seq, ws_sSet, ws_sIf, ws_sRet, ws_sExpr, ws_sPar, ws_sAsg, ws_sSto, ws_stoV, ws_bk, ws_ct, List.getElem?_cons_zero, List.getElem?_cons_succ, List.set_cons_zero, List.set_cons_succ, Option.some.injEq, exists_eq_left', exists_eq_left, fillA, backA, List.headD_cons, List.tail_cons, Option.map_some, setL, asgT, true_or, true_and, List.length_cons, List.length_nil, exists_eq', exists_const, gx_lst, gx_tup, gx_add, gx_sub, gx_lt, gx_le, gx_gt, gx_ge, gx_len, gx_lenD, gx_lenS, gx_neg, gx_list, gx_eqI, gx_neI, gx_eqS, gx_neS, gx_itL, gx_itl, gx_itD, gx_items, D.bl.injEq, D.int.injEq, D.lst.injEq, D.tup.injEq, D.dct.injEq, D.str.injEq, and_true, Bool.not_true, Bool.not_false, Bool.false_eq_true, Bool.true_eq_false, if_true, if_false, Bool.not_eq_true', decide_eq_true_eq, decide_eq_false_iff_not, wipeE, not_false_eq_true, wp_dRm, gx_ty, gx_isi, ii_s, ii_l, ii_d, Option.map_some, not_true_eq_false, ws_sSwp, gx_eqIX, gx_neIX, gx_eqSX, gx_neSX, gx_listW, wp_dLmP, ws_sSAug, ws_sSto2, wp_nilP, wp_consP, wp_dDisp0]
  refine (ok_is_history hM (fun s h => (hM.nm s (hm s h)).ok) hl).mono fun r _ ⟨b, e, hb⟩ => ?_
  have : b = true := hb.mpr ⟨h0, hm, hs⟩
  subst e; subst this
  simp (config := { maxSteps := 3000000 }) only [wp_dC, wp_dV, wp_d1, wp_d2, wp_nilA, wp_consA, wp_dN, wp_bT, wp_bNot, wp_bAnd, wp_bOr, wp_bYes, wp_dIf, wp_dNot, wp_dAnd, wp_dOr, wp_dChain, wp_oNone, wp_oSome, wp_dSl, wp_dUp, wp_itE, wp_itKE, wp_itemsE, wp_valsE, wp_rngE, wp_zipE, wp_dCall, wp_consS, wp_dLm, ws_skip, ws_seq, ws_sSet, ws_sIf, ws_sRet, ws_sExpr, ws_sPar, ws_sAsg, ws_sSto, ws_stoV, ws_bk, ws_ct, List.getElem?_cons_zero, List.getElem?_cons_succ, List.set_cons_zero, List.set_cons_succ, Option.some.injEq, exists_eq_left', exists_eq_left, fillA, backA, List.headD_cons, List.tail_cons, Option.map_some, setL, asgT, true_or, true_and, List.length_cons, List.length_nil, exists_eq', exists_const, gx_lst, gx_tup, gx_add, gx_sub, gx_lt, gx_le, gx_gt, gx_ge, gx_len, gx_lenD, gx_lenS, gx_neg, gx_list, gx_eqI, gx_neI, gx_eqS, gx_neS, gx_itL, gx_itl, gx_itD, gx_items, D.bl.injEq, D.int.injEq, D.lst.injEq, D.tup.injEq, D.dct.injEq, D.str.injEq, and_true, Bool.not_true, Bool.not_false, Bool.false_eq_true, Bool.true_eq_false, if_true, if_false, Bool.not_eq_true', decide_eq_true_eq, decide_eq_false_iff_not, wipeE, not_false_eq_true, wp_dRm, gx_ty, gx_isi, ii_s, ii_l, ii_d, Option.map_some, not_true_eq_false, ws_sSwp, gx_eqIX, gx_neIX, gx_eqSX, gx_neSX, gx_listW, wp_dLmP, ws_sSAug, ws_sSto2, wp_nilP, wp_consP, wp_dDisp0]
  rfl
/-! ### handovers: a dict over pairs -/
def kP (q : Str × Str) : List Key := [.inr q.1, .inr q.2]
theorem kP_inj {a b : Str × Str} (h : kP a = kP b) : a = b := by
  obtain ⟨a1, a2⟩ := a
  obtain ⟨b1, b2⟩ := b
  unfold kP at h
  cases h
  rfl
abbrev cD (ks : List (Str × Str)) (c : Str × Str → Nat) : D := .dtt (ks.map fun q => (kP q, .int (c q : Nat)))
theorem keys_pair {a b : Str} : keysOf (.tup [.str a, .str b]) = some (kP (a, b)) := by rfl
theorem valC {c : Str × Str → Nat} {q : Str × Str} : ∀ {ks : List (Str × Str)}, valD (ks.map fun q => (kP q, D.int (c q : Nat))) (kP q) = if q ∈ ks then some (.int (c q : Nat)) else none
  | [] => rfl
  | x :: ks => by
    unfold valD
    rw [List.map_cons, List.find?_cons]
    by_cases e : x = q
    · subst e; simp
    · rw [decide_eq_false fun z : kP x = kP q => e (kP_inj z)]
      show valD _ _ = _
      rw [valC]
      have e2 : ¬ q = x := fun z => e z.symm
      simp [e2]
theorem anyC {c : Str × Str → Nat} {q : Str × Str} {ks : List (Str × Str)} : ((ks.map fun q => (kP q, D.int (c q : Nat))).any fun kv => decide (kv.1 = kP q)) = decide (q ∈ ks) := by
  rw [List.any_map]
  by_cases h : q ∈ ks
  · rw [decide_eq_true h]
    exact List.any_eq_true.mpr ⟨q, h, decide_eq_true rfl⟩
  · rw [decide_eq_false h, List.any_eq_false]
    intro x hx z
    have : kP x = kP q := of_decide_eq_true z
    rw [kP_inj this] at hx
    exact h hx
/-- a pair more -/
def addK (ks : List (Str × Str)) (q : Str × Str) : List (Str × Str) := if q ∈ ks then ks else ks ++ [q]
theorem putC {ks l : List (Str × Str)} {q : Str × Str} (hk : ∀ x, x ∈ ks ↔ x ∈ l) : putD (ks.map fun q => (kP q, D.int (l.count q : Nat))) (kP q) (.int ((l.count q : Nat) + 1)) = (addK ks q).map fun x => (kP x, .int ((l ++ [q]).count x : Nat)) := by
  have hc : ∀ x, (l ++ [q]).count x = l.count x + if x = q then 1 else 0 := fun x => by
    rw [List.count_append]
    by_cases e : x = q
    · subst e; simp
    · rw [if_neg e, List.count_singleton, if_neg]
      simpa using fun z : q = x => e z.symm
  unfold putD
  rw [anyC]
  unfold addK
  by_cases h : q ∈ ks
  · rw [decide_eq_true h, if_pos rfl, if_pos h, List.map_map]
    refine List.map_congr_left fun x hx => ?_
    show (if kP x = kP q then (kP x, D.int ((l.count q : Nat) + 1)) else (kP x, D.int (l.count x : Nat))) = _
    rw [hc]
    by_cases e : x = q
    · subst e; simp
    · rw [if_neg fun z => e (kP_inj z), if_neg e, Nat.add_zero]
  · rw [decide_eq_false h, if_neg (by simp), if_neg h, List.map_append]
    have h0 : l.count q = 0 := List.count_eq_zero.mpr fun z => h ((hk q).mpr z)
    congr 1
    · refine List.map_congr_left fun x hx => ?_
      rw [hc, if_neg fun z => h (by rw [← z]; exact hx), Nat.add_zero]
    · show [(kP q, D.int ((l.count q : Nat) + 1))] = [(kP q, _)]
      rw [hc, if_pos rfl]
      rfl
theorem addK_mem {ks l : List (Str × Str)} {q : Str × Str} (hk : ∀ x, x ∈ ks ↔ x ∈ l) (x : Str × Str) : x ∈ addK ks q ↔ x ∈ l ++ [q] := by
  unfold addK
  rw [List.mem_append, List.mem_singleton]
  split
  · rename_i h
    rw [hk]
    exact ⟨.inl, fun z => z.elim id fun z => by rw [z]; exact (hk q).mp h⟩
  · rw [List.mem_append, List.mem_singleton, hk]
theorem addK_pw {ks l : List (Str × Str)} {q : Str × Str} (hk : ∀ x, x ∈ ks ↔ x ∈ l) (hp : ks.Pairwise fun a b => Zl.lexS a b = true) (hl : ∀ x ∈ l, leP x q = true) : (addK ks q).Pairwise fun a b => Zl.lexS a b = true := by
  unfold addK
  split
  · exact hp
  · rename_i h
    refine List.pairwise_append.mpr ⟨hp, List.pairwise_singleton _ _, fun a ha b hb => ?_⟩
    rw [List.mem_singleton.mp hb]
    have := hl a ((hk a).mp ha)
    unfold leP at this
    rcases Zl.lex_tri a q with z | z | z
    · exact z
    · exact absurd (by rw [← z]; exact ha) h
    · rw [z] at this; cases this
theorem sortZ_is {h : List Str} (hl : h.length ≤ sizeLine) : gSortZ [.lst (sD h), .lst (sD h.tail)] = some (.lst ((sortP (h.zip h.tail)).map fun q => .tup [.str q.1, .str q.2])) := by
  show (if (sD h).length ≤ sizeLine then (strsOf (sD h)).bind fun ss => (strsOf (sD h.tail)).map fun tt => D.lst ((sortP (ss.zip tt)).map fun q => .tup [.str q.1, .str q.2]) else none) = _
  rw [List.length_map, if_pos hl, strs_sD, strs_sD]
  rfl
/-- what handovers_of returns -/
structure Hv (h : List Str) (ks : List (Str × Str)) : Prop where
  pw : ks.Pairwise fun a b => Zl.lexS a b = true
  mem : ∀ q, q ∈ ks ↔ q ∈ h.zip h.tail
  len : ks.length ≤ h.length
theorem Hv.nd {h : List Str} {ks : List (Str × Str)} (a : Hv h ks) : ks.Nodup := a.pw.imp fun {a b} hab z => by
  subst z
  have := Zl.lex_asym hab
  rw [hab] at this; cases this
theorem ok_handovers {ms h : List Str} (hM : Mems ms) (h0 : h ≠ []) (hm : ∀ x ∈ h, x ∈ ms) (hs : Hs h) (hl : h.length ≤ 10000) : Wf m_handovers_of [.lst (sD ms), .lst (sD h)] fun r _ => ∃ ks, r = cD ks (h.zip h.tail).count ∧ Hv h ks := by
  refine wf_sem ?_
  show Ws b_handovers_of [some _, some _, none, none] _ _ _ _
  unfold b_handovers_of
  have zl : 100000 < sizeLine := by decide
  have eh : (sD h).length = h.length := List.length_map ..
  have hz : (h.zip h.tail).length ≤ h.length := by rw [List.length_zip]; exact Nat.min_le_left _ _
  have hpl := (sortP_perm (h.zip h.tail)).length_eq
  refine ws_seq.mpr ?_
  simp (config := { maxSteps := 3000000 }) only [wp_dC, wp_dV, wp_d1, wp_d2, wp_nilA, wp_consA, wp_dN, wp_bT, wp_bNot, wp_bAnd, wp_bOr, wp_bYes, wp_dIf, wp_dNot, wp_dAnd, wp_dOr, wp_dChain, wp_oNone, wp_oSome, wp_dSl, wp_dUp, wp_itE, wp_itKE, wp_itemsE, wp_valsE, wp_rngE, wp_zipE, wp_dCall, wp_consS, wp_dLm, ws_skip, ws_seq, ws_sSet, ws_sIf, ws_sRet, ws_sExpr, ws_sPar, ws_sAsg, ws_sSto, ws_stoV, ws_bk, ws_ct, List.getElem?_cons_zero, List.getElem?_cons_succ, List.set_cons_zero, List.set_cons_succ, Option.some.injEq, exists_eq_left', exists_eq_left, fillA, backA, List.headD_cons, List.tail_cons, Option.map_some, setL, asgT, true_or, true_and, List.length_cons, List.length_nil, exists_eq', exists_const, gx_lst, gx_tup, gx_add, gx_sub, gx_lt, gx_le, gx_gt, gx_ge, gx_len, gx_lenD, gx_lenS, gx_neg, gx_list, gx_eqI, gx_neI, gx_eqS, gx_neS, gx_itL, gx_itl, gx_itD, gx_items, D.bl.injEq, D.int.injEq, D.lst.injEq, D.tup.injEq, D.dct.injEq, D.str.injEq, and_true, Bool.not_true, Bool.not_false, Bool.false_eq_true, Bool.true_eq_false, if_true, if_false, Bool.not_eq_true', decide_eq_true_eq, decide_eq_false_iff_not, wipeE, not_false_eq_true, wp_dRm, gx_ty, gx_isi, ii_s, ii_l, ii_d, Option.map_some, not_true_eq_false, ws_sSwp, gx_eqIX, gx_neIX, gx_eqSX, gx_neSX, gx_listW, wp_dLmP, ws_sSAug, ws_sSto2, wp_nilP, wp_consP, wp_dDisp0]
  refine (ok_need_history hM h0 hm hs (by omega)).mono fun r _ e1 => ?_
  refine ws_for2 (fun is e1 => is = (sortP (h.zip h.tail)).map (fun q => .tup [.str q.1, .str q.2]) ∧ e1 = [some (.lst (sD ms)), some (.lst (sD h)), some (cD [] fun _ => 0), none]) (fun _ _ j e => ∃ ks a, e = [some (.lst (sD ms)), some (.lst (sD h)), some (cD ks ((sortP (h.zip h.tail)).take j).count), a] ∧ (∀ x, x ∈ ks ↔ x ∈ (sortP (h.zip h.tail)).take j) ∧ ks.length ≤ j ∧ ks.Pairwise fun a b => Zl.lexS a b = true) ?_ ?_ ?_ ?_
  · simp (config := { maxSteps := 3000000 }) only [wp_dC, wp_dV, wp_d1, wp_d2, wp_nilA, wp_consA, wp_dN, wp_bT, wp_bNot, wp_bAnd, wp_bOr, wp_bYes, wp_dIf, wp_dNot, wp_dAnd, wp_dOr, wp_dChain, wp_oNone, wp_oSome, wp_dSl, wp_dUp, wp_itE, wp_itKE, wp_itemsE, wp_valsE, wp_rngE, wp_zipE, wp_dCall, wp_consS, wp_dLm, ws_skip, ws_seq, ws_sSet, ws_sIf, ws_sRet, ws_sExpr, ws_sPar, ws_sAsg, ws_sSto, ws_stoV, ws_bk, ws_ct, List.getElem?_cons_zero, List.getElem?_cons_succ, List.set_cons_zero, List.set_cons_succ, Option.some.injEq, exists_eq_left', exists_eq_left, fillA, backA, List.headD_cons, List.tail_cons, Option.map_some, setL, asgT, true_or, true_and, List.length_cons, List.length_nil, exists_eq', exists_const, gx_lst, gx_tup, gx_add, gx_sub, gx_lt, gx_le, gx_gt, gx_ge, gx_len, gx_lenD, gx_lenS, gx_neg, gx_list, gx_eqI, gx_neI, gx_eqS, gx_neS, gx_itL, gx_itl, gx_itD, gx_items, D.bl.injEq, D.int.injEq, D.lst.injEq, D.tup.injEq, D.dct.injEq, D.str.injEq, and_true, Bool.not_true, Bool.not_false, Bool.false_eq_true, Bool.true_eq_false, if_true, if_false, Bool.not_eq_true', decide_eq_true_eq, decide_eq_false_iff_not, wipeE, not_false_eq_true, wp_dRm, gx_ty, gx_isi, ii_s, ii_l, ii_d, Option.map_some, not_true_eq_false, ws_sSwp, gx_eqIX, gx_neIX, gx_eqSX, gx_neSX, gx_listW, wp_dLmP, ws_sSAug, ws_sSto2, wp_nilP, wp_consP, wp_dDisp0, cut_1, tl_sD]
    refine ⟨_, sortZ_is (by omega), ?_⟩
    simp (config := { maxSteps := 3000000 }) only [wp_dC, wp_dV, wp_d1, wp_d2, wp_nilA, wp_consA, wp_dN, wp_bT, wp_bNot, wp_bAnd, wp_bOr, wp_bYes, wp_dIf, wp_dNot, wp_dAnd, wp_dOr, wp_dChain, wp_oNone, wp_oSome, wp_dSl, wp_dUp, wp_itE, wp_itKE, wp_itemsE, wp_valsE, wp_rngE, wp_zipE, wp_dCall, wp_consS, wp_dLm, ws_skip, ws_seq, ws_sSet, ws_sIf, ws_sRet, ws_sExpr, ws_sPar, ws_sAsg, ws_sSto, ws_stoV, ws_bk, ws_ct, List.getElem?_cons_zero, List.getElem?_cons_succ, List.set_cons_zero, List.set_cons_succ, Option.some.injEq, exists_eq_left', exists_eq_left, fillA, backA, List.headD_cons, List.tail_cons, Option.map_some, setL, asgT, true_or, true_and, List.length_cons, List.length_nil, exists_eq', exists_const, gx_lst, gx_tup, gx_add, gx_sub, gx_lt, gx_le, gx_gt, gx_ge, gx_len, gx_lenD, gx_lenS, gx_neg, gx_list, gx_eqI, gx_neI, gx_eqS, gx_neS, gx_itL, gx_itl, gx_itD, gx_items, D.bl.injEq, D.int.injEq, D.lst.injEq, D.tup.injEq, D.dct.injEq, D.str.injEq, and_true, Bool.not_true, Bool.not_false, Bool.false_eq_true, Bool.true_eq_false, if_true, if_false, Bool.not_eq_true', decide_eq_true_eq, decide_eq_false_iff_not, wipeE, not_false_eq_true, wp_dRm, gx_ty, gx_isi, ii_s, ii_l, ii_d, Option.map_some, not_true_eq_false, ws_sSwp, gx_eqIX, gx_neIX, gx_eqSX, gx_neSX, gx_listW, wp_dLmP, ws_sSAug, ws_sSto2, wp_nilP, wp_consP, wp_dDisp0]
    rfl
  · rintro is _ ⟨rfl, rfl⟩
    exact ⟨[], none, rfl, fun x => by simp, Nat.le_refl _, .nil⟩
  · rintro is _ ⟨rfl, rfl⟩ j d e hd ⟨ks, a, rfl, hk, hkl, hp⟩
    rw [List.getElem?_map] at hd
    obtain ⟨⟨x, g⟩, hq, rfl⟩ := Option.map_eq_some_iff.mp hd
    have hj := (List.getElem?_eq_some_iff.mp hq).1
    have tk : (sortP (h.zip h.tail)).take (j + 1) = (sortP (h.zip h.tail)).take j ++ [(x, g)] := by rw [List.take_add_one, hq]; rfl
    have hle : ∀ y ∈ (sortP (h.zip h.tail)).take j, leP y (x, g) = true := fun y hy => by
      have := sortP_pw (h.zip h.tail)
      have e : sortP (h.zip h.tail) = (sortP (h.zip h.tail)).take j ++ (x, g) :: (sortP (h.zip h.tail)).drop (j + 1) := by
        have e2 := List.drop_eq_getElem_cons hj
        rw [(List.getElem?_eq_some_iff.mp hq).2] at e2
        rw [← e2, List.take_append_drop]
      rw [e] at this
      exact (List.pairwise_append.mp this).2.2 y hy _ List.mem_cons_self
    rw [tk]
    generalize (sortP (h.zip h.tail)).take j = l at hk hle
    have eg : gGet (cD ks l.count) (.tup [.str x, .str g]) (.int 0) = some (.int (l.count (x, g) : Nat)) := by
      show (keysOf (.tup [.str x, .str g])).map (fun k => (valD (ks.map fun q => (kP q, D.int (l.count q : Nat))) k).getD (.int 0)) = _
      rw [keys_pair]
      show some ((valD (ks.map fun q => (kP q, D.int (l.count q : Nat))) (kP (x, g))).getD (.int 0)) = _
      rw [valC]
      by_cases c : (x, g) ∈ ks
      · rw [if_pos c]; rfl
      · rw [if_neg c, List.count_eq_zero.mpr fun z => c ((hk _).mpr z)]; rfl
    have es : stoD (cD ks l.count) (.tup [.str x, .str g]) (.int ((l.count (x, g) : Nat) + 1)) = some (cD (addK ks (x, g)) (l ++ [(x, g)]).count) := by
      show (if (ks.map fun q => (kP q, D.int (l.count q : Nat))).length < sizeLine then (keysOf (.tup [.str x, .str g])).map (fun k => D.dtt (putD (ks.map fun q => (kP q, D.int (l.count q : Nat))) k (.int ((l.count (x, g) : Nat) + 1)))) else none) = _
      rw [List.length_map, if_pos (by omega), keys_pair]
      show some (D.dtt (putD _ (kP (x, g)) _)) = _
      rw [putC hk]
    refine ⟨_, rfl, ?_⟩
    unfold dGet2 dDic
    simp (config := { maxSteps := 3000000 }) only [wp_dC, wp_dV, wp_d1, wp_d2, wp_nilA, wp_consA, wp_dN, wp_bT, wp_bNot, wp_bAnd, wp_bOr, wp_bYes, wp_dIf, wp_dNot, wp_dAnd, wp_dOr, wp_dChain, wp_oNone, wp_oSome, wp_dSl, wp_dUp, wp_itE, wp_itKE, wp_itemsE, wp_valsE, wp_rngE, wp_zipE, wp_dCall, wp_consS, wp_dLm, ws_skip, ws_seq, ws_sSet, ws_sIf, ws_sRet, ws_sExpr, ws_sPar, ws_sAsg, ws_sSto, ws_stoV, ws_bk, ws_ct, List.getElem?_cons_zero, List.getElem?_cons_succ, List.set_cons_zero, List.set_cons_succ, Option.some.injEq, exists_eq_left', exists_eq_left, fillA, backA, List.headD_cons, List.tail_cons, Option.map_some, setL, asgT, true_or, true_and, List.length_cons, List.length_nil, exists_eq', exists_const, gx_lst, gx_tup, gx_add, gx_sub, gx_lt, gx_le, gx_gt, gx_ge, gx_len, gx_lenD, gx_lenS, gx_neg, gx_list, gx_eqI, gx_neI, gx_eqS, gx_neS, gx_itL, gx_itl, gx_itD, gx_items, D.bl.injEq, D.int.injEq, D.lst.injEq, D.tup.injEq, D.dct.injEq, D.str.injEq, and_true, Bool.not_true, Bool.not_false, Bool.false_eq_true, Bool.true_eq_false, if_true, if_false, Bool.not_eq_true', decide_eq_true_eq, decide_eq_false_iff_not, wipeE, not_false_eq_true, wp_dRm, gx_ty, gx_isi, ii_s, ii_l, ii_d, Option.map_some, not_true_eq_false, ws_sSwp, gx_eqIX, gx_neIX, gx_eqSX, gx_neSX, gx_listW, wp_dLmP, ws_sSAug, ws_sSto2, wp_nilP, wp_consP, wp_dDisp0, eg, es, wp_bnd, wp_lf]
    refine ⟨_, rfl, _, eg, _, rfl, _, es, addK ks (x, g), _, rfl, addK_mem hk, ?_, addK_pw hk hp hle⟩
    unfold addK
    split
    · omega
    · rw [List.length_append, List.length_singleton]; omega
  · rintro is _ ⟨rfl, rfl⟩ e ⟨ks, a, rfl, hk, hkl, hp⟩
    rw [List.length_map, List.take_length] at *
    simp (config := { maxSteps := 3000000 }) only [wp_dC, wp_dV, wp_d1, wp_d2, wp_nilA, wp_consA, wp_dN, wp_bT, wp_bNot, wp_bAnd, wp_bOr, wp_bYes, wp_dIf, wp_dNot, wp_dAnd, wp_dOr, wp_dChain, wp_oNone, wp_oSome, wp_dSl, wp_dUp, wp_itE, wp_itKE, wp_itemsE, wp_valsE, wp_rngE, wp_zipE, wp_dCall, wp_consS, wp_dLm, ws_skip, ws_seq, ws_sSet, ws_sIf, ws_sRet, ws_sExpr, ws_sPar, ws_sAsg, ws_sSto, ws_stoV, ws_bk, ws_ct, List.getElem?_cons_zero, List.getElem?_cons_succ, List.set_cons_zero, List.set_cons_succ, Option.some.injEq, exists_eq_left', exists_eq_left, fillA, backA, List.headD_cons, List.tail_cons, Option.map_some, setL, asgT, true_or, true_and, List.length_cons, List.length_nil, exists_eq', exists_const, gx_lst, gx_tup, gx_add, gx_sub, gx_lt, gx_le, gx_gt, gx_ge, gx_len, gx_lenD, gx_lenS, gx_neg, gx_list, gx_eqI, gx_neI, gx_eqS, gx_neS, gx_itL, gx_itl, gx_itD, gx_items, D.bl.injEq, D.int.injEq, D.lst.injEq, D.tup.injEq, D.dct.injEq, D.str.injEq, and_true, Bool.not_true, Bool.not_false, Bool.false_eq_true, Bool.true_eq_false, if_true, if_false, Bool.not_eq_true', decide_eq_true_eq, decide_eq_false_iff_not, wipeE, not_false_eq_true, wp_dRm, gx_ty, gx_isi, ii_s, ii_l, ii_d, Option.map_some, not_true_eq_false, ws_sSwp, gx_eqIX, gx_neIX, gx_eqSX, gx_neSX, gx_listW, wp_dLmP, ws_sSAug, ws_sSto2, wp_nilP, wp_consP, wp_dDisp0]
    refine ⟨by rfl, ks, ?_, hp, fun q => (hk q).trans (sortP_perm _).mem_iff, by omega⟩
    have : (sortP (h.zip h.tail)).count = (h.zip h.tail).count := funext fun q => (sortP_perm _).count_eq q
    rw [this]
/-! ### turns -/
abbrev iD (ns : List Nat) : List D := ns.map fun n => .int (n : Nat)
def tn (h : List Str) (m : Str) : List Nat := (h.zipIdx.filter fun q => decide (q.1 = m)).map (·.2)
theorem tn_snoc {p : List Str} {x m : Str} : tn (p ++ [x]) m = tn p m ++ if x = m then [p.length] else [] := by
  unfold tn
  rw [List.zipIdx_append, List.filter_append, List.map_append]
  congr 1
  by_cases e : x = m
  · subst e; simp
  · simp [e]
theorem tn_lt {h : List Str} {m : Str} {t : Nat} (ht : t ∈ tn h m) : h[t]? = some m := by
  obtain ⟨⟨s, i⟩, hq, rfl⟩ := List.mem_map.mp ht
  obtain ⟨h1, h2⟩ := List.mem_filter.mp hq
  have h2 : s = m := of_decide_eq_true h2
  subst h2
  exact List.mem_zipIdx_iff_getElem?.mp h1
theorem tn_len {m : Str} {h : List Str} : (tn h m).length = h.count m := by
  unfold tn
  rw [List.length_map, List.count_eq_countP, ← List.countP_eq_length_filter]
  have : h.countP (fun x => decide (x = m)) = h.zipIdx.countP fun q => decide (q.1 = m) := by
    have e := List.zipIdx_map_fst 0 h
    conv => lhs; rw [← e]
    rw [List.countP_map]
    rfl
  rw [← this]
  refine List.countP_congr fun x _ => ?_
  simp
theorem rsnoc {P : List Str → Prop} (h0 : P []) (h1 : ∀ x, P [x]) (hs : ∀ p y x, P (p ++ [y]) → P (p ++ [y, x])) (h : List Str) : P h := by
  have : ∀ n (h : List Str), h.length = n → P h := by
    intro n
    induction n with
    | zero => intro h e; rw [List.length_eq_zero_iff.mp e]; exact h0
    | succ n ih =>
      intro h e
      rcases List.eq_nil_or_concat h with z | ⟨q, x, rfl⟩
      · rw [z]; exact h0
      · have eq : q.length = n := by simpa using e
        rcases List.eq_nil_or_concat q with z | ⟨p, y, rfl⟩
        · rw [z]; exact h1 x
        · have := hs p y x (by simpa using ih _ eq)
          simpa using this
  exact this _ h rfl
/-- who held before each turn -/
theorem tn_gv {m : Str} (h : List Str) : ((tn h m).filter fun t => decide (0 < t)).map (fun t => h.getD (t - 1) "") = gv h m := by
  revert h
  refine rsnoc ?_ ?_ ?_
  · rfl
  · intro x
    rw [gv_one, show [x] = [] ++ [x] from rfl, tn_snoc]
    by_cases e : x = m
    · rw [if_pos e]; rfl
    · rw [if_neg e]; rfl
  · intro p y x ih
    rw [gv_snoc, ← ih, show p ++ [y, x] = (p ++ [y]) ++ [x] by simp, tn_snoc, List.filter_append, List.map_append]
    have hl : (p ++ [y]).length = p.length + 1 := by rw [List.length_append]; rfl
    congr 1
    · refine List.map_congr_left fun t ht => ?_
      have h1 := (List.getElem?_eq_some_iff.mp (tn_lt (List.mem_filter.mp ht).1)).1
      rw [List.getD_eq_getElem?_getD, List.getD_eq_getElem?_getD, List.getElem?_append_left (by omega)]
    · by_cases e : x = m
      · rw [if_pos e, if_pos e.symm, hl]
        show [((p ++ [y]) ++ [x]).getD (p.length + 1 - 1) ""] = [y]
        rw [List.getD_eq_getElem?_getD, Nat.add_sub_cancel, List.append_assoc, List.getElem?_append_right (Nat.le_refl _), Nat.sub_self]
        rfl
      · rw [if_neg e, if_neg fun z => e z.symm]; rfl
theorem zip_snoc : ∀ {p : List Str} {y x : Str}, (p ++ [y, x]).zip (p ++ [y, x]).tail = (p ++ [y]).zip (p ++ [y]).tail ++ [(y, x)]
  | [], _, _ => rfl
  | [a], _, _ => rfl
  | a :: b :: p, y, x => by
    show (a, b) :: ((b :: p) ++ [y, x]).zip ((b :: p) ++ [y, x]).tail = (a, b) :: (((b :: p) ++ [y]).zip ((b :: p) ++ [y]).tail ++ [(y, x)])
    rw [zip_snoc]
/-- how often a member gave -/
theorem tn_given {m : Str} (h : List Str) : ∀ l, h.getLast? = some l → ((h.zip h.tail).countP fun q => decide (q.1 = m)) + (if l = m then 1 else 0) = (tn h m).length := by
  rw [tn_len]
  revert h
  refine rsnoc ?_ ?_ ?_
  · intro l e; cases e
  · intro x l e
    cases e
    by_cases z : x = m
    · subst z; simp
    · simp [z]
  · intro p y x ih l e
    have : l = x := by simpa using e.symm
    subst this
    have ih := ih y (by simp)
    rw [zip_snoc, List.countP_append, show p ++ [y, l] = (p ++ [y]) ++ [l] by simp, List.count_append, ← ih]
    congr 1
    · by_cases z : y = m
      · subst z; simp
      · simp [z]
    · by_cases z : l = m
      · subst z; simp
      · simp [z]
theorem tn_got {m : Str} {h : List Str} : ((h.zip h.tail).countP fun q => decide (q.2 = m)) = (gv h m).length := by
  unfold gv
  rw [List.length_map, List.countP_eq_length_filter]
theorem ok_turns {ms h : List Str} {m : Str} (hM : Mems ms) (h0 : h ≠ []) (hm : ∀ x ∈ h, x ∈ ms) (hs : Hs h) (hl : h.length ≤ 10000) (hmm : m ∈ ms) : Wf m_turns_of [.lst (sD ms), .lst (sD h), .str m] fun r _ => r = .lst (iD (tn h m)) := by
  refine wf_sem ?_
  show Ws b_turns_of [some _, some _, some _, none, none] _ _ _ _
  unfold b_turns_of
  have zl : 100000 < sizeLine := by decide
  refine ws_seq.mpr ?_
  simp (config := { maxSteps := 3000000 }) only [wp_dC, wp_dV, wp_d1, wp_d2, wp_nilA, wp_consA, wp_dN, wp_bT, wp_bNot, wp_bAnd, wp_bOr, wp_bYes, wp_dIf, wp_dNot, wp_dAnd, wp_dOr, wp_dChain, wp_oNone, wp_oSome, wp_dSl, wp_dUp, wp_itE, wp_itKE, wp_itemsE, wp_valsE, wp_rngE, wp_zipE, wp_dCall, wp_consS, wp_dLm, ws_skip, ws_seq, ws_sSet, ws_sIf, ws_sRet, ws_sExpr, ws_sPar, ws_sAsg, ws_sSto, ws_stoV, ws_bk, ws_ct, List.getElem?_cons_zero, List.getElem?_cons_succ, List.set_cons_zero, List.set_cons_succ, Option.some.injEq, exists_eq_left', exists_eq_left, fillA, backA, List.headD_cons, List.tail_cons, Option.map_some, setL, asgT, true_or, true_and, List.length_cons, List.length_nil, exists_eq', exists_const, gx_lst, gx_tup, gx_add, gx_sub, gx_lt, gx_le, gx_gt, gx_ge, gx_len, gx_lenD, gx_lenS, gx_neg, gx_list, gx_eqI, gx_neI, gx_eqS, gx_neS, gx_itL, gx_itl, gx_itD, gx_items, D.bl.injEq, D.int.injEq, D.lst.injEq, D.tup.injEq, D.dct.injEq, D.str.injEq, and_true, Bool.not_true, Bool.not_false, Bool.false_eq_true, Bool.true_eq_false, if_true, if_false, Bool.not_eq_true', decide_eq_true_eq, decide_eq_false_iff_not, wipeE, not_false_eq_true, wp_dRm, gx_ty, gx_isi, ii_s, ii_l, ii_d, Option.map_some, not_true_eq_false, ws_sSwp, gx_eqIX, gx_neIX, gx_eqSX, gx_neSX, gx_listW, wp_dLmP, ws_sSAug, ws_sSto2, wp_nilP, wp_consP, wp_dDisp0]
  refine (ok_need_history hM h0 hm hs (by omega)).mono fun r _ e1 => ?_
  refine (ok_need_member hmm).mono fun r _ e2 => ?_
  refine wp_dLcM2 (fun d => match d with | .tup [_, .str s] => decide (s = m) | _ => false) (fun d => match d with | .tup [i, _] => i | d => d) ((sD h).zipIdx.map fun q => .tup [.int (q.2 : Nat), q.1]) [some (.lst (sD ms)), some (.lst (sD h)), some (.str m), none, none] ?_ ?_ ?_ ?_
  · unfold enumE
    simp (config := { maxSteps := 3000000 }) only [wp_dC, wp_dV, wp_d1, wp_d2, wp_nilA, wp_consA, wp_dN, wp_bT, wp_bNot, wp_bAnd, wp_bOr, wp_bYes, wp_dIf, wp_dNot, wp_dAnd, wp_dOr, wp_dChain, wp_oNone, wp_oSome, wp_dSl, wp_dUp, wp_itE, wp_itKE, wp_itemsE, wp_valsE, wp_rngE, wp_zipE, wp_dCall, wp_consS, wp_dLm, ws_skip, ws_seq, ws_sSet, ws_sIf, ws_sRet, ws_sExpr, ws_sPar, ws_sAsg, ws_sSto, ws_stoV, ws_bk, ws_ct, List.getElem?_cons_zero, List.getElem?_cons_succ, List.set_cons_zero, List.set_cons_succ, Option.some.injEq, exists_eq_left', exists_eq_left, fillA, backA, List.headD_cons, List.tail_cons, Option.map_some, setL, asgT, true_or, true_and, List.length_cons, List.length_nil, exists_eq', exists_const, gx_lst, gx_tup, gx_add, gx_sub, gx_lt, gx_le, gx_gt, gx_ge, gx_len, gx_lenD, gx_lenS, gx_neg, gx_list, gx_eqI, gx_neI, gx_eqS, gx_neS, gx_itL, gx_itl, gx_itD, gx_items, D.bl.injEq, D.int.injEq, D.lst.injEq, D.tup.injEq, D.dct.injEq, D.str.injEq, and_true, Bool.not_true, Bool.not_false, Bool.false_eq_true, Bool.true_eq_false, if_true, if_false, Bool.not_eq_true', decide_eq_true_eq, decide_eq_false_iff_not, wipeE, not_false_eq_true, wp_dRm, gx_ty, gx_isi, ii_s, ii_l, ii_d, Option.map_some, not_true_eq_false, ws_sSwp, gx_eqIX, gx_neIX, gx_eqSX, gx_neSX, gx_listW, wp_dLmP, ws_sSAug, ws_sSto2, wp_nilP, wp_consP, wp_dDisp0, wp_bnd, wp_lf]
    first | rfl | exact ⟨_, rfl, rfl⟩ | exact ⟨rfl, rfl⟩ | exact ⟨_, rfl⟩
  · rw [List.length_map, List.length_zipIdx, List.length_map]; omega
  · intro d hd
    obtain ⟨⟨d0, i⟩, hq, rfl⟩ := List.mem_map.mp hd
    have hd0 : d0 ∈ sD h := (List.mem_zipIdx hq).2.2 ▸ List.getElem_mem _
    obtain ⟨s, hs', rfl⟩ := List.mem_map.mp hd0
    refine ⟨_, rfl, ?_⟩
    by_cases c : s = m
    · simp (config := { maxSteps := 3000000 }) only [wp_dC, wp_dV, wp_d1, wp_d2, wp_nilA, wp_consA, wp_dN, wp_bT, wp_bNot, wp_bAnd, wp_bOr, wp_bYes, wp_dIf, wp_dNot, wp_dAnd, wp_dOr, wp_dChain, wp_oNone, wp_oSome, wp_dSl, wp_dUp, wp_itE, wp_itKE, wp_itemsE, wp_valsE, wp_rngE, wp_zipE, wp_dCall, wp_consS, wp_dLm, ws_skip, ws_seq, ws_sSet, ws_sIf, ws_sRet, ws_sExpr, ws_sPar, ws_sAsg, ws_sSto, ws_stoV, ws_bk, ws_ct, List.getElem?_cons_zero, List.getElem?_cons_succ, List.set_cons_zero, List.set_cons_succ, Option.some.injEq, exists_eq_left', exists_eq_left, fillA, backA, List.headD_cons, List.tail_cons, Option.map_some, setL, asgT, true_or, true_and, List.length_cons, List.length_nil, exists_eq', exists_const, gx_lst, gx_tup, gx_add, gx_sub, gx_lt, gx_le, gx_gt, gx_ge, gx_len, gx_lenD, gx_lenS, gx_neg, gx_list, gx_eqI, gx_neI, gx_eqS, gx_neS, gx_itL, gx_itl, gx_itD, gx_items, D.bl.injEq, D.int.injEq, D.lst.injEq, D.tup.injEq, D.dct.injEq, D.str.injEq, and_true, Bool.not_true, Bool.not_false, Bool.false_eq_true, Bool.true_eq_false, if_true, if_false, Bool.not_eq_true', decide_eq_true_eq, decide_eq_false_iff_not, wipeE, not_false_eq_true, wp_dRm, gx_ty, gx_isi, ii_s, ii_l, ii_d, Option.map_some, not_true_eq_false, ws_sSwp, gx_eqIX, gx_neIX, gx_eqSX, gx_neSX, gx_listW, wp_dLmP, ws_sSAug, ws_sSto2, wp_nilP, wp_consP, wp_dDisp0, c, decide_true]
    · simp (config := { maxSteps := 3000000 }) only [wp_dC, wp_dV, wp_d1, wp_d2, wp_nilA, wp_consA, wp_dN, wp_bT, wp_bNot, wp_bAnd, wp_bOr, wp_bYes, wp_dIf, wp_dNot, wp_dAnd, wp_dOr, wp_dChain, wp_oNone, wp_oSome, wp_dSl, wp_dUp, wp_itE, wp_itKE, wp_itemsE, wp_valsE, wp_rngE, wp_zipE, wp_dCall, wp_consS, wp_dLm, ws_skip, ws_seq, ws_sSet, ws_sIf, ws_sRet, ws_sExpr, ws_sPar, ws_sAsg, ws_sSto, ws_stoV, ws_bk, ws_ct, List.getElem?_cons_zero, List.getElem?_cons_succ, List.set_cons_zero, List.set_cons_succ, Option.some.injEq, exists_eq_left', exists_eq_left, fillA, backA, List.headD_cons, List.tail_cons, Option.map_some, setL, asgT, true_or, true_and, List.length_cons, List.length_nil, exists_eq', exists_const, gx_lst, gx_tup, gx_add, gx_sub, gx_lt, gx_le, gx_gt, gx_ge, gx_len, gx_lenD, gx_lenS, gx_neg, gx_list, gx_eqI, gx_neI, gx_eqS, gx_neS, gx_itL, gx_itl, gx_itD, gx_items, D.bl.injEq, D.int.injEq, D.lst.injEq, D.tup.injEq, D.dct.injEq, D.str.injEq, and_true, Bool.not_true, Bool.not_false, Bool.false_eq_true, Bool.true_eq_false, if_true, if_false, Bool.not_eq_true', decide_eq_true_eq, decide_eq_false_iff_not, wipeE, not_false_eq_true, wp_dRm, gx_ty, gx_isi, ii_s, ii_l, ii_d, Option.map_some, not_true_eq_false, ws_sSwp, gx_eqIX, gx_neIX, gx_eqSX, gx_neSX, gx_listW, wp_dLmP, ws_sSAug, ws_sSto2, wp_nilP, wp_consP, wp_dDisp0, c, decide_false]
  · refine ⟨by rfl, ?_⟩
    congr 1
    rw [sD, List.zipIdx_map, List.map_map, List.filter_map, List.map_map, tn, iD, List.map_map]
    rfl
/-! ### keys -/
theorem keyS_nd {ms : List Str} (nd : ms.Nodup) {k : D → Key} (hk : ∀ s, k (.str s) = .inr s) : ((sD ms).map k).Nodup := by
  rw [List.map_map]
  exact List.Pairwise.map _ (fun a b hab z => hab (by
    have : (k (.str a)) = k (.str b) := z
    rw [hk, hk] at this
    cases this; rfl)) nd
def kS : D → Key
  | .str s => .inr s
  | _ => .inl 0
/-! ### lists_of -/
theorem ok_lists_of {ms h : List Str} (hM : Mems ms) (h0 : h ≠ []) (hm : ∀ x ∈ h, x ∈ ms) (hs : Hs h) (hl : h.length ≤ 10000) : Wf m_lists_of [.lst (sD ms), .lst (sD h)] fun r _ => r = gD ms (gv h) := by
  refine wf_sem ?_
  show Ws b_lists_of [some _, some _, none, none, none, none] _ _ _ _
  unfold b_lists_of
  have h12 := hM.le
  have nd := hM.nd
  have zl : 100000 < sizeLine := by decide
  have em : (sD ms).length = ms.length := List.length_map ..
  have eh : (sD h).length = h.length := List.length_map ..
  refine ws_seq.mpr ?_
  simp (config := { maxSteps := 3000000 }) only [wp_dC, wp_dV, wp_d1, wp_d2, wp_nilA, wp_consA, wp_dN, wp_bT, wp_bNot, wp_bAnd, wp_bOr, wp_bYes, wp_dIf, wp_dNot, wp_dAnd, wp_dOr, wp_dChain, wp_oNone, wp_oSome, wp_dSl, wp_dUp, wp_itE, wp_itKE, wp_itemsE, wp_valsE, wp_rngE, wp_zipE, wp_dCall, wp_consS, wp_dLm, ws_skip, ws_seq, ws_sSet, ws_sIf, ws_sRet, ws_sExpr, ws_sPar, ws_sAsg, ws_sSto, ws_stoV, ws_bk, ws_ct, List.getElem?_cons_zero, List.getElem?_cons_succ, List.set_cons_zero, List.set_cons_succ, Option.some.injEq, exists_eq_left', exists_eq_left, fillA, backA, List.headD_cons, List.tail_cons, Option.map_some, setL, asgT, true_or, true_and, List.length_cons, List.length_nil, exists_eq', exists_const, gx_lst, gx_tup, gx_add, gx_sub, gx_lt, gx_le, gx_gt, gx_ge, gx_len, gx_lenD, gx_lenS, gx_neg, gx_list, gx_eqI, gx_neI, gx_eqS, gx_neS, gx_itL, gx_itl, gx_itD, gx_items, D.bl.injEq, D.int.injEq, D.lst.injEq, D.tup.injEq, D.dct.injEq, D.str.injEq, and_true, Bool.not_true, Bool.not_false, Bool.false_eq_true, Bool.true_eq_false, if_true, if_false, Bool.not_eq_true', decide_eq_true_eq, decide_eq_false_iff_not, wipeE, not_false_eq_true, wp_dRm, gx_ty, gx_isi, ii_s, ii_l, ii_d, Option.map_some, not_true_eq_false, ws_sSwp, gx_eqIX, gx_neIX, gx_eqSX, gx_neSX, gx_listW, wp_dLmP, ws_sSAug, ws_sSto2, wp_nilP, wp_consP, wp_dDisp0]
  refine (ok_need_history hM h0 hm hs (by omega)).mono fun r _ e1 => ?_
  refine wp_dDcM (fun _ => true) kS (fun _ => .lst (sD [])) (sD ms) [some (.lst (sD ms)), some (.lst (sD h)), none, none, none, none] ?_ (by omega) ?_ ?_ ?_
  · simp (config := { maxSteps := 3000000 }) only [wp_dC, wp_dV, wp_d1, wp_d2, wp_nilA, wp_consA, wp_dN, wp_bT, wp_bNot, wp_bAnd, wp_bOr, wp_bYes, wp_dIf, wp_dNot, wp_dAnd, wp_dOr, wp_dChain, wp_oNone, wp_oSome, wp_dSl, wp_dUp, wp_itE, wp_itKE, wp_itemsE, wp_valsE, wp_rngE, wp_zipE, wp_dCall, wp_consS, wp_dLm, ws_skip, ws_seq, ws_sSet, ws_sIf, ws_sRet, ws_sExpr, ws_sPar, ws_sAsg, ws_sSto, ws_stoV, ws_bk, ws_ct, List.getElem?_cons_zero, List.getElem?_cons_succ, List.set_cons_zero, List.set_cons_succ, Option.some.injEq, exists_eq_left', exists_eq_left, fillA, backA, List.headD_cons, List.tail_cons, Option.map_some, setL, asgT, true_or, true_and, List.length_cons, List.length_nil, exists_eq', exists_const, gx_lst, gx_tup, gx_add, gx_sub, gx_lt, gx_le, gx_gt, gx_ge, gx_len, gx_lenD, gx_lenS, gx_neg, gx_list, gx_eqI, gx_neI, gx_eqS, gx_neS, gx_itL, gx_itl, gx_itD, gx_items, D.bl.injEq, D.int.injEq, D.lst.injEq, D.tup.injEq, D.dct.injEq, D.str.injEq, and_true, Bool.not_true, Bool.not_false, Bool.false_eq_true, Bool.true_eq_false, if_true, if_false, Bool.not_eq_true', decide_eq_true_eq, decide_eq_false_iff_not, wipeE, not_false_eq_true, wp_dRm, gx_ty, gx_isi, ii_s, ii_l, ii_d, Option.map_some, not_true_eq_false, ws_sSwp, gx_eqIX, gx_neIX, gx_eqSX, gx_neSX, gx_listW, wp_dLmP, ws_sSAug, ws_sSto2, wp_nilP, wp_consP, wp_dDisp0]
  · intro d hd
    obtain ⟨m, hmm, rfl⟩ := List.mem_map.mp hd
    refine ⟨_, rfl, ?_⟩
    simp (config := { maxSteps := 3000000 }) only [wp_dC, wp_dV, wp_d1, wp_d2, wp_nilA, wp_consA, wp_dN, wp_bT, wp_bNot, wp_bAnd, wp_bOr, wp_bYes, wp_dIf, wp_dNot, wp_dAnd, wp_dOr, wp_dChain, wp_oNone, wp_oSome, wp_dSl, wp_dUp, wp_itE, wp_itKE, wp_itemsE, wp_valsE, wp_rngE, wp_zipE, wp_dCall, wp_consS, wp_dLm, ws_skip, ws_seq, ws_sSet, ws_sIf, ws_sRet, ws_sExpr, ws_sPar, ws_sAsg, ws_sSto, ws_stoV, ws_bk, ws_ct, List.getElem?_cons_zero, List.getElem?_cons_succ, List.set_cons_zero, List.set_cons_succ, Option.some.injEq, exists_eq_left', exists_eq_left, fillA, backA, List.headD_cons, List.tail_cons, Option.map_some, setL, asgT, true_or, true_and, List.length_cons, List.length_nil, exists_eq', exists_const, gx_lst, gx_tup, gx_add, gx_sub, gx_lt, gx_le, gx_gt, gx_ge, gx_len, gx_lenD, gx_lenS, gx_neg, gx_list, gx_eqI, gx_neI, gx_eqS, gx_neS, gx_itL, gx_itl, gx_itD, gx_items, D.bl.injEq, D.int.injEq, D.lst.injEq, D.tup.injEq, D.dct.injEq, D.str.injEq, and_true, Bool.not_true, Bool.not_false, Bool.false_eq_true, Bool.true_eq_false, if_true, if_false, Bool.not_eq_true', decide_eq_true_eq, decide_eq_false_iff_not, wipeE, not_false_eq_true, wp_dRm, gx_ty, gx_isi, ii_s, ii_l, ii_d, Option.map_some, not_true_eq_false, ws_sSwp, gx_eqIX, gx_neIX, gx_eqSX, gx_neSX, gx_listW, wp_dLmP, ws_sSAug, ws_sSto2, wp_nilP, wp_consP, wp_dDisp0]
    exact ⟨by rfl, rfl⟩
  · rw [List.filter_eq_self.mpr fun _ _ => rfl]
    exact keyS_nd nd fun _ => rfl
  rw [List.filter_eq_self.mpr fun _ _ => rfl]
  have e0 : (D.dct ((sD ms).map fun d => (kS d, D.lst (sD [])))) = gD ms fun _ => [] := by
    rw [gD, sD, List.map_map]; rfl
  rw [e0]
  have hz : (h.zip h.tail).length ≤ h.length := by rw [List.length_zip]; exact Nat.min_le_left _ _
  have hgq : ∀ (j : Nat) (m : Str), (gq ((h.zip h.tail).take j) m).length ≤ 10000 := fun j m => by
    unfold gq
    rw [List.length_map]
    exact Nat.le_trans (List.length_filter_le ..) (by rw [List.length_take]; omega)
  refine ws_for2 (fun is e1 => is = (h.zip h.tail).map (fun q => .tup [.str q.1, .str q.2]) ∧ e1 = [some (.lst (sD ms)), some (.lst (sD h)), some (gD ms fun _ => []), none, none, none]) (fun _ _ j e => ∃ a b, e = [some (.lst (sD ms)), some (.lst (sD h)), some (gD ms (gq ((h.zip h.tail).take j))), a, b, none]) ?_ ?_ ?_ ?_
  · simp (config := { maxSteps := 3000000 }) only [wp_dC, wp_dV, wp_d1, wp_d2, wp_nilA, wp_consA, wp_dN, wp_bT, wp_bNot, wp_bAnd, wp_bOr, wp_bYes, wp_dIf, wp_dNot, wp_dAnd, wp_dOr, wp_dChain, wp_oNone, wp_oSome, wp_dSl, wp_dUp, wp_itE, wp_itKE, wp_itemsE, wp_valsE, wp_rngE, wp_zipE, wp_dCall, wp_consS, wp_dLm, ws_skip, ws_seq, ws_sSet, ws_sIf, ws_sRet, ws_sExpr, ws_sPar, ws_sAsg, ws_sSto, ws_stoV, ws_bk, ws_ct, List.getElem?_cons_zero, List.getElem?_cons_succ, List.set_cons_zero, List.set_cons_succ, Option.some.injEq, exists_eq_left', exists_eq_left, fillA, backA, List.headD_cons, List.tail_cons, Option.map_some, setL, asgT, true_or, true_and, List.length_cons, List.length_nil, exists_eq', exists_const, gx_lst, gx_tup, gx_add, gx_sub, gx_lt, gx_le, gx_gt, gx_ge, gx_len, gx_lenD, gx_lenS, gx_neg, gx_list, gx_eqI, gx_neI, gx_eqS, gx_neS, gx_itL, gx_itl, gx_itD, gx_items, D.bl.injEq, D.int.injEq, D.lst.injEq, D.tup.injEq, D.dct.injEq, D.str.injEq, and_true, Bool.not_true, Bool.not_false, Bool.false_eq_true, Bool.true_eq_false, if_true, if_false, Bool.not_eq_true', decide_eq_true_eq, decide_eq_false_iff_not, wipeE, not_false_eq_true, wp_dRm, gx_ty, gx_isi, ii_s, ii_l, ii_d, Option.map_some, not_true_eq_false, ws_sSwp, gx_eqIX, gx_neIX, gx_eqSX, gx_neSX, gx_listW, wp_dLmP, ws_sSAug, ws_sSto2, wp_nilP, wp_consP, wp_dDisp0, cut_1, tl_sD, zip_is, zip_sD]
  · rintro is _ ⟨rfl, rfl⟩
    exact ⟨none, none, rfl⟩
  · rintro is _ ⟨rfl, rfl⟩ j d e hd ⟨a, b, rfl⟩
    rw [List.getElem?_map] at hd
    obtain ⟨⟨x, g⟩, hq, rfl⟩ := Option.map_eq_some_iff.mp hd
    have tk : (h.zip h.tail).take (j + 1) = (h.zip h.tail).take j ++ [(x, g)] := by rw [List.take_add_one, hq]; rfl
    have hgm : g ∈ ms := hm g (List.mem_of_mem_tail (List.of_mem_zip (List.mem_of_getElem? hq)).2)
    obtain ⟨d1, d2, d3⟩ := app_gD (x := x) nd hgm (L := gq ((h.zip h.tail).take j)) (by have := hgq j g; omega)
    refine ⟨_, rfl, ?_⟩
    simp (config := { maxSteps := 3000000 }) only [wp_dC, wp_dV, wp_d1, wp_d2, wp_nilA, wp_consA, wp_dN, wp_bT, wp_bNot, wp_bAnd, wp_bOr, wp_bYes, wp_dIf, wp_dNot, wp_dAnd, wp_dOr, wp_dChain, wp_oNone, wp_oSome, wp_dSl, wp_dUp, wp_itE, wp_itKE, wp_itemsE, wp_valsE, wp_rngE, wp_zipE, wp_dCall, wp_consS, wp_dLm, ws_skip, ws_seq, ws_sSet, ws_sIf, ws_sRet, ws_sExpr, ws_sPar, ws_sAsg, ws_sSto, ws_stoV, ws_bk, ws_ct, List.getElem?_cons_zero, List.getElem?_cons_succ, List.set_cons_zero, List.set_cons_succ, Option.some.injEq, exists_eq_left', exists_eq_left, fillA, backA, List.headD_cons, List.tail_cons, Option.map_some, setL, asgT, true_or, true_and, List.length_cons, List.length_nil, exists_eq', exists_const, gx_lst, gx_tup, gx_add, gx_sub, gx_lt, gx_le, gx_gt, gx_ge, gx_len, gx_lenD, gx_lenS, gx_neg, gx_list, gx_eqI, gx_neI, gx_eqS, gx_neS, gx_itL, gx_itl, gx_itD, gx_items, D.bl.injEq, D.int.injEq, D.lst.injEq, D.tup.injEq, D.dct.injEq, D.str.injEq, and_true, Bool.not_true, Bool.not_false, Bool.false_eq_true, Bool.true_eq_false, if_true, if_false, Bool.not_eq_true', decide_eq_true_eq, decide_eq_false_iff_not, wipeE, not_false_eq_true, wp_dRm, gx_ty, gx_isi, ii_s, ii_l, ii_d, Option.map_some, not_true_eq_false, ws_sSwp, gx_eqIX, gx_neIX, gx_eqSX, gx_neSX, gx_listW, wp_dLmP, ws_sSAug, ws_sSto2, wp_nilP, wp_consP, wp_dDisp0, d1, d2, Prod.mk.injEq, and_assoc, exists_and_left]
    refine ⟨_, d3, some (.str x), some (.str g), ?_⟩
    have : (fun m => if m = g then gq ((h.zip h.tail).take j) m ++ [x] else gq ((h.zip h.tail).take j) m) = gq ((h.zip h.tail).take (j + 1)) := funext fun m => by rw [tk, gq_snoc]
    rw [this]
  · rintro is _ ⟨rfl, rfl⟩ e ⟨a, b, rfl⟩
    rw [List.length_map, List.take_length]
    simp (config := { maxSteps := 3000000 }) only [wp_dC, wp_dV, wp_d1, wp_d2, wp_nilA, wp_consA, wp_dN, wp_bT, wp_bNot, wp_bAnd, wp_bOr, wp_bYes, wp_dIf, wp_dNot, wp_dAnd, wp_dOr, wp_dChain, wp_oNone, wp_oSome, wp_dSl, wp_dUp, wp_itE, wp_itKE, wp_itemsE, wp_valsE, wp_rngE, wp_zipE, wp_dCall, wp_consS, wp_dLm, ws_skip, ws_seq, ws_sSet, ws_sIf, ws_sRet, ws_sExpr, ws_sPar, ws_sAsg, ws_sSto, ws_stoV, ws_bk, ws_ct, List.getElem?_cons_zero, List.getElem?_cons_succ, List.set_cons_zero, List.set_cons_succ, Option.some.injEq, exists_eq_left', exists_eq_left, fillA, backA, List.headD_cons, List.tail_cons, Option.map_some, setL, asgT, true_or, true_and, List.length_cons, List.length_nil, exists_eq', exists_const, gx_lst, gx_tup, gx_add, gx_sub, gx_lt, gx_le, gx_gt, gx_ge, gx_len, gx_lenD, gx_lenS, gx_neg, gx_list, gx_eqI, gx_neI, gx_eqS, gx_neS, gx_itL, gx_itl, gx_itD, gx_items, D.bl.injEq, D.int.injEq, D.lst.injEq, D.tup.injEq, D.dct.injEq, D.str.injEq, and_true, Bool.not_true, Bool.not_false, Bool.false_eq_true, Bool.true_eq_false, if_true, if_false, Bool.not_eq_true', decide_eq_true_eq, decide_eq_false_iff_not, wipeE, not_false_eq_true, wp_dRm, gx_ty, gx_isi, ii_s, ii_l, ii_d, Option.map_some, not_true_eq_false, ws_sSwp, gx_eqIX, gx_neIX, gx_eqSX, gx_neSX, gx_listW, wp_dLmP, ws_sSAug, ws_sSto2, wp_nilP, wp_consP, wp_dDisp0]
    exact ⟨by rfl, rfl⟩
/-! ### histories put together -/
theorem hs_cons {a b : Str} {t : List Str} : Hs (a :: b :: t) ↔ a ≠ b ∧ Hs (b :: t) := by
  constructor
  · intro h
    exact ⟨h (a, b) (by simp), fun q hq => h q (List.mem_cons_of_mem _ hq)⟩
  · rintro ⟨h1, h2⟩ q hq
    rcases List.mem_cons.mp (show q ∈ (a, b) :: (b :: t).zip t from hq) with rfl | hq
    · exact h1
    · exact h2 q hq
theorem hs_one {a : Str} : Hs [a] := fun q hq => by cases hq
theorem hs_app : ∀ {p : List Str} {y : Str} {s : List Str}, Hs (p ++ [y]) → Hs (y :: s) → Hs (p ++ y :: s)
  | [], _, _, _, h => h
  | [a], y, s, h1, h2 => hs_cons.mpr ⟨(hs_cons.mp h1).1, h2⟩
  | a :: b :: p, y, s, h1, h2 => hs_cons.mpr ⟨(hs_cons.mp h1).1, hs_app (p := b :: p) (hs_cons.mp h1).2 h2⟩
theorem hs_left : ∀ {p : List Str} {y : Str} {s : List Str}, Hs (p ++ y :: s) → Hs (p ++ [y])
  | [], _, _, _ => hs_one
  | [a], y, s, h => hs_cons.mpr ⟨(hs_cons.mp h).1, hs_one⟩
  | a :: b :: p, y, s, h => hs_cons.mpr ⟨(hs_cons.mp h).1, hs_left (p := b :: p) (hs_cons.mp h).2⟩
theorem hs_right : ∀ {p : List Str} {y : Str} {s : List Str}, Hs (p ++ y :: s) → Hs (y :: s)
  | [], _, _, h => h
  | [a], y, s, h => (hs_cons.mp h).2
  | a :: b :: p, y, s, h => hs_right (p := b :: p) (hs_cons.mp h).2
theorem gv_app {m : Str} : ∀ {p : List Str} {y : Str} {s : List Str}, gv (p ++ y :: s) m = gv (p ++ [y]) m ++ gv (y :: s) m
  | [], y, s => by rw [List.nil_append, List.nil_append, gv_one, List.nil_append]
  | [a], y, s => by
    show gv (a :: y :: s) m = gv (a :: [y]) m ++ gv (y :: s) m
    rw [gv_cons, gv_cons, gv_one, List.append_nil]
  | a :: b :: p, y, s => by
    show gv (a :: b :: (p ++ y :: s)) m = gv (a :: b :: (p ++ [y])) m ++ gv (y :: s) m
    rw [gv_cons, gv_cons, List.append_assoc]
    exact congrArg _ (gv_app (p := b :: p))
theorem gv_map {σ : Str → Str} {ms : List Str} (inj : ∀ a ∈ ms, ∀ b ∈ ms, σ a = σ b → a = b) {m : Str} (hm : m ∈ ms) : ∀ {h : List Str}, (∀ x ∈ h, x ∈ ms) → gv (h.map σ) (σ m) = (gv h m).map σ
  | [], _ => rfl
  | [a], _ => rfl
  | a :: b :: t, H => by
    show gv (σ a :: σ b :: t.map σ) (σ m) = _
    rw [gv_cons, gv_cons, List.map_append]
    have e : (if σ m = σ b then [σ a] else []) = ((if m = b then [a] else []) : List Str).map σ := by
      by_cases q : m = b
      · rw [if_pos q, if_pos (by rw [q])]; rfl
      · rw [if_neg q, if_neg fun z => q (inj m hm b (H b (by simp)) z)]; rfl
    rw [e]
    exact congrArg _ (gv_map inj hm (h := b :: t) fun x hx => H x (List.mem_cons_of_mem _ hx))
theorem last_ex {h : List Str} (h0 : h ≠ []) : ∃ l, h.getLast? = some l := by
  cases e : h.getLast? with
  | none => exact absurd (List.getLast?_eq_none_iff.mp e) h0
  | some l => exact ⟨l, rfl⟩
theorem head_ex {h : List Str} (h0 : h ≠ []) : ∃ f t, h = f :: t := by
  cases h with
  | nil => exact absurd rfl h0
  | cons f t => exact ⟨f, t, rfl⟩
theorem hs_nd : ∀ {l : List Str}, l.Nodup → Hs l
  | [], _ => fun q hq => by cases hq
  | [_], _ => hs_one
  | a :: b :: t, h => by
    have ⟨h1, h2⟩ := List.nodup_cons.mp h
    exact hs_cons.mpr ⟨fun z => h1 (by rw [z]; exact List.mem_cons_self), hs_nd h2⟩
/-! ### lists of numbers -/
theorem eqv_ints : ∀ {xs ys : List Nat}, PyData.eqvAll (toPs (iD xs)) (toPs (iD ys)) = decide (xs = ys)
  | [], [] => rfl
  | [], _ :: _ => rfl
  | _ :: _, [] => rfl
  | x :: xs, y :: ys => by
    show (PyData.eqv (.int (x : Nat)) (.int (y : Nat)) && PyData.eqvAll (toPs (iD xs)) (toPs (iD ys))) = _
    rw [eqv_ints]
    show ((((x : Nat) : Int) == ((y : Nat) : Int)) && _) = _
    by_cases h : x = y
    · by_cases h2 : xs = ys <;> simp [h, h2]
    · have : ¬ ((x : Nat) : Int) = ((y : Nat) : Int) := by omega
      simp [h, this]
theorem shaped_ints {xs : List Nat} : okP (.lst (iD xs)) = true ∧ SeqAt.shaped (toP (.lst (iD xs))) = true := by
  have h1 : okPs (iD xs) = true := by
    induction xs with
    | nil => rfl
    | cons x xs ih => show (okP (.int (x : Nat)) && okPs (iD xs)) = true; rw [ih]; rfl
  have h2 : PyData.canLayAll0 (toPs (iD xs)) = true := by
    induction xs with
    | nil => rfl
    | cons x xs ih =>
      show (PyData.canLay0 (.int (x : Nat)) && PyData.canLayAll0 (toPs (iD xs))) = true
      rw [ih (by
        have : (okP (.int (x : Nat)) && okPs (iD xs)) = true := h1
        simpa using (Bool.and_eq_true_iff.mp this).2)]; rfl
  have h3 : PyData.depthAll (toPs (iD xs)) = 0 := by
    clear h1 h2
    induction xs with
    | nil => rfl
    | cons x xs ih =>
      show max (PyData.depth (.int (x : Nat))) (PyData.depthAll (toPs (iD xs))) = 0
      rw [ih]; simp [PyData.depth]
  refine ⟨h1, ?_⟩
  unfold SeqAt.shaped
  show (PyData.canLay0 (.list (toPs (iD xs))) && decide (PyData.depth (.list (toPs (iD xs))) ≤ 64)) = true
  simp only [PyData.canLay0, PyData.depth, h2, h3]
  rfl
theorem eq_ints {xs ys : List Nat} : eqD (.lst (iD xs)) (.lst (iD ys)) = some (decide (xs = ys)) := by
  have ⟨a1, a2⟩ := shaped_ints (xs := xs)
  have ⟨b1, b2⟩ := shaped_ints (xs := ys)
  unfold eqD
  rw [show eqA (.lst (iD xs)) (.lst (iD ys)) = none from rfl, if_pos ⟨a1, b1, a2, b2⟩]
  show some (PyData.eqv (.list (toPs (iD xs))) (.list (toPs (iD ys)))) = _
  simp only [PyData.eqv, eqv_ints]
theorem eqN {xs ys : List Nat} : gEqX (.lst (iD xs)) (.lst (iD ys)) = some (.bl (decide (xs = ys))) := gX_eq (by unfold gEq; rw [eq_ints]; rfl)
theorem neN {xs ys : List Nat} : gNeX (.lst (iD xs)) (.lst (iD ys)) = some (.bl !decide (xs = ys)) := gX_ne (by unfold gNe; rw [eq_ints]; rfl)
theorem ints_iD : ∀ {ns : List Nat}, intsOf (iD ns) = some (ns.map fun n => ((n : Nat) : Int))
  | [] => rfl
  | n :: ns => by
    show (intsOf (iD ns)).map (((n : Nat) : Int) :: ·) = _
    rw [ints_iD]; rfl
theorem sum_cast : ∀ {ns : List Nat}, (ns.map fun n => ((n : Nat) : Int)).sum = ((ns.sum : Nat) : Int)
  | [] => rfl
  | n :: ns => by rw [List.map_cons, List.sum_cons, sum_cast, List.sum_cons]; omega
theorem sumN {ns : List Nat} : gSum [.lst (iD ns)] = some (.int (ns.sum : Nat)) := by
  show (intsOf (iD ns)).map (fun ns => D.int ns.sum) = _
  rw [ints_iD, Option.map_some, sum_cast]
theorem catN {xs ys : List Nat} (h : xs.length + ys.length ≤ sizeLine) : gCat (.lst (iD xs)) (.lst (iD ys)) = some (.lst (iD (xs ++ ys))) := by
  rw [cat_is (by rw [List.length_map, List.length_map]; exact h), iD, iD, iD, ← List.map_append]
/-- the sorted numbers below n -/
theorem sortVI_range {xs : List Nat} {n : Nat} (hn : n ≤ 1000000) (hp : xs.Perm (List.range n)) : sortVI (.lst (iD xs)) = some (.lst (iD (List.range n))) := by
  have zl : 1000000 < sizeLine := by decide
  have hl : xs.length = n := by rw [hp.length_eq, List.length_range]
  show (if (iD xs).length ≤ sizeLine then (intsOf (iD xs)).map fun ss => D.lst ((sortI ss).map .int) else none) = _
  rw [List.length_map, if_pos (by omega), ints_iD, Option.map_some]
  have : sortI (xs.map fun n => ((n : Nat) : Int)) = (List.range n).map fun n => ((n : Nat) : Int) := by
    refine (sortI_eq ?_ ?_).symm
    · exact (hp.map _).symm
    · refine List.pairwise_map.mpr ?_
      exact List.pairwise_lt_range.imp fun h => by omega
  rw [this, iD, List.map_map]
  rfl
theorem rngL_is {n : Nat} (hn : n ≤ 1000000) : gRngL (.int (n : Nat)) = some (.lst (iD (List.range n))) := by
  show (if -(2 ^ 62) ≤ ((n : Nat) : Int) ∧ ((n : Nat) : Int) ≤ 1000000 then some (D.lst ((List.range ((n : Nat) : Int).toNat).map fun i => .int (i : Nat))) else none) = _
  rw [if_pos ⟨by omega, by omega⟩]
  rfl
/-- all turns, each once -/
theorem tn_all {ms : List Str} (nd : ms.Nodup) : ∀ (h : List Str), (∀ x ∈ h, x ∈ ms) → (ms.flatMap (tn h)).Perm (List.range h.length) := by
  intro h
  revert h
  have key : ∀ (ms : List Str), ms.Nodup → ∀ (p : List Str) (x : Str), (ms.flatMap (tn (p ++ [x]))).Perm (ms.flatMap (tn p) ++ if x ∈ ms then [p.length] else []) := by
    intro ms nd p x
    induction ms with
    | nil => simp
    | cons m ms ih =>
      have ⟨n1, n2⟩ := List.nodup_cons.mp nd
      rw [List.flatMap_cons, List.flatMap_cons, tn_snoc]
      by_cases e : x = m
      · subst e
        have ih := ih n2
        rw [if_neg n1, List.append_nil] at ih
        rw [if_pos rfl, if_pos List.mem_cons_self, List.append_assoc, List.append_assoc]
        exact List.Perm.append_left _ ((List.perm_append_comm).trans (List.Perm.append_right _ ih))
      · rw [if_neg e, List.append_nil, List.append_assoc]
        refine List.Perm.append_left _ ((ih n2).trans ?_)
        have : (x ∈ m :: ms) ↔ x ∈ ms := by simp [e]
        by_cases c : x ∈ ms
        · rw [if_pos c, if_pos (this.mpr c)]
        · rw [if_neg c, if_neg fun z => c (this.mp z)]
  intro h
  have : ∀ n (h : List Str), h.length = n → (∀ x ∈ h, x ∈ ms) → (ms.flatMap (tn h)).Perm (List.range h.length) := by
    intro n
    induction n with
    | zero =>
      intro h e _
      rw [List.length_eq_zero_iff.mp e]
      have : ms.flatMap (tn []) = [] := by simp [tn]
      rw [this]; exact .nil
    | succ n ih =>
      intro h e hm
      rcases List.eq_nil_or_concat h with z | ⟨q, x, rfl⟩
      · rw [z] at e; cases e
      · rw [List.concat_eq_append] at *
        have eq : q.length = n := by simpa using e
        have hq := ih q eq fun y hy => hm y (List.mem_append_left _ hy)
        refine (key ms nd q x).trans ?_
        rw [if_pos (hm x (by simp)), List.length_append, List.length_singleton, List.range_succ]
        exact List.Perm.append_right _ hq
  exact this _ h rfl
/-- the sum over a dict of counts -/
theorem cSum {α : Type} [BEq α] [LawfulBEq α] (P : α → Bool) : ∀ (l ks : List α), ks.Nodup → (∀ q ∈ l, q ∈ ks) → ((ks.filter P).map l.count).sum = l.countP P := by
  intro l
  induction l with
  | nil =>
    intro ks _ _
    have z : ∀ l : List α, (l.map fun _ => 0).sum = 0 := fun l => by induction l <;> simp_all
    simp [z]
  | cons x l ih =>
    intro ks nd hk
    have h1 := ih ks nd fun q hq => hk q (List.mem_cons_of_mem _ hq)
    have hx := hk x List.mem_cons_self
    rw [List.countP_cons, ← h1]
    clear h1 ih hk
    have : ∀ ks : List α, ks.Nodup → ((ks.filter P).map (x :: l).count).sum = ((ks.filter P).map l.count).sum + if x ∈ ks ∧ P x = true then 1 else 0 := by
      intro ks nd
      induction ks with
      | nil => simp
      | cons k ks ih =>
        have ⟨n1, n2⟩ := List.nodup_cons.mp nd
        have ih := ih n2
        rw [List.filter_cons]
        by_cases e : P k = true
        · rw [if_pos e, List.map_cons, List.sum_cons, List.map_cons, List.sum_cons, ih, List.count_cons]
          by_cases c : x = k
          · subst c
            simp [n1, e]; omega
          · have c2 : ¬ k = x := fun z => c z.symm
            simp [c]; omega
        · rw [if_neg e, ih]
          by_cases c : x = k
          · subst c
            simp [e]
          · simp [c]
    rw [this ks nd]
    simp [hx]
theorem neS_self {xs : List Str} (h : ∀ x ∈ xs, PyData.strOk x = true) : gNeX (.lst (sD xs)) (.lst (sD xs)) = some (.bl false) := by
  rw [neL h h, decide_eq_true rfl]; rfl
/-! ### k06: the members, the history is made longer -/
def nms : List Str := ["na", "nb", "nc", "nd", "ne", "nf", "ng", "nh", "ni", "nj", "nk", "nl"]
theorem nms_ok : (nms.Pairwise fun a b => a.cps.toList < b.cps.toList) ∧ nms.length = 12 ∧ ∀ s ∈ nms, Nw s := by decide +kernel
theorem mems_nms {k : Nat} (hk : k < 7) : Mems (nms.take (6 + k)) := by
  obtain ⟨h1, h2, h3⟩ := nms_ok
  refine ⟨h1.sublist (List.take_sublist _ _), fun z => ?_, by rw [List.length_take]; omega, fun s hs => h3 s (List.mem_of_mem_take hs)⟩
  have := congrArg List.length z
  rw [List.length_take, h2] at this
  simp at this
theorem mems_nms_len {k : Nat} (hk : k < 7) : (nms.take (6 + k)).length = 6 + k := by
  rw [List.length_take, nms_ok.2.1]; omega
theorem cut_let {k : Nat} (hk : k < 7) : ∃ s : Str, gSl (.str "abcdefghijkl") none (some (6 + (k : Int))) = some (.str s) ∧ s.cps.toList.length ≤ 12 ∧ (∀ d ∈ s.cps.toList.map chr1, ∃ x : Str, d = .str x ∧ x.length = 1) ∧ (s.cps.toList.map chr1).map (fun d => match d with | .str s => .str ("n" ++ s) | d => d) = sD (nms.take (6 + k)) := by
  have a : ∀ (s : Str) (d : D), d ∈ s.cps.toList.map chr1 → ∃ x : Str, d = .str x ∧ x.length = 1 := fun s d hd => by
    obtain ⟨c, _, rfl⟩ := List.mem_map.mp hd
    exact ⟨_, rfl, rfl⟩
  match k, hk with
  | 0, _ => exact ⟨"abcdef", by rfl, by decide, a _, by rfl⟩
  | 1, _ => exact ⟨"abcdefg", by rfl, by decide, a _, by rfl⟩
  | 2, _ => exact ⟨"abcdefgh", by rfl, by decide, a _, by rfl⟩
  | 3, _ => exact ⟨"abcdefghi", by rfl, by decide, a _, by rfl⟩
  | 4, _ => exact ⟨"abcdefghij", by rfl, by decide, a _, by rfl⟩
  | 5, _ => exact ⟨"abcdefghijk", by rfl, by decide, a _, by rfl⟩
  | 6, _ => exact ⟨"abcdefghijkl", by rfl, by decide, a _, by rfl⟩
def longS : DS := (whl (bT (d2 gLt (dN gLen (consA (dV 4) nilA)) (dC (.int 61)))) (seq (sSet 5 (d2 PD.gSub (dV 4) (d1 gNeg (dC (.int 1)))))
  (sSet 4 (d2 gCat (dV 4) (dLc (itKE (dV 3)) (.nm 9) (bT (d2 gNeX (dV 9) (dV 5))) (dV 9) [9])))) 1000000)
theorem ok_long {a0 a1 a2 a5 a6 a7 a8 a9 a10 a11 a12 a13 a14 a15 : Option D} {ms p : List Str} {y : Str} {N : Ev → Prop} {R : D → Ev → Prop} {B C : Ev → Prop} (hM : Mems ms) (h2 : 2 ≤ ms.length) (hs : Hs (p ++ [y])) (hm : ∀ x ∈ p ++ [y], x ∈ ms) (hl : p.length ≤ 149)
    (hN : ∀ p y x5 x9, Hs (p ++ [y]) → (∀ x ∈ p ++ [y], x ∈ ms) → p.length ≤ 149 → N [a0, a1, a2, some (.lst (sD ms)), some (.lst (sD (p ++ [y]))), x5, a6, a7, a8, x9, a10, a11, a12, a13, a14, a15]) :
    Ws longS [a0, a1, a2, some (.lst (sD ms)), some (.lst (sD (p ++ [y]))), a5, a6, a7, a8, a9, a10, a11, a12, a13, a14, a15] N R B C := by
  have zl : 2000 < sizeLine := by decide
  have h12 := hM.le
  have em : (sD ms).length = ms.length := List.length_map ..
  unfold longS
  refine ws_whl (I := fun n e => ∃ p y x5 x9, e = [a0, a1, a2, some (.lst (sD ms)), some (.lst (sD (p ++ [y]))), x5, a6, a7, a8, x9, a10, a11, a12, a13, a14, a15] ∧ Hs (p ++ [y]) ∧ (∀ x ∈ p ++ [y], x ∈ ms) ∧ p.length ≤ 149 ∧ n + p.length = 1000) ?_ (n := 1000 - p.length) ⟨p, y, a5, a9, rfl, hs, hm, hl, by omega⟩ (by omega)
  rintro n e ⟨p, y, x5, x9, rfl, hs, hm, hl, hn⟩
  have ep : (sD (p ++ [y])).length = p.length + 1 := by rw [List.length_map, List.length_append]; rfl
  by_cases c : (((p.length + 1 : Nat) : Nat) : Int) < 61
  rotate_left
  · simp (config := { maxSteps := 3000000 }) only [wp_dC, wp_dV, wp_d1, wp_d2, wp_nilA, wp_consA, wp_dN, wp_bT, wp_bNot, wp_bAnd, wp_bOr, wp_bYes, wp_dIf, wp_dNot, wp_dAnd, wp_dOr, wp_dChain, wp_oNone, wp_oSome, wp_dSl, wp_dUp, wp_itE, wp_itKE, wp_itemsE, wp_valsE, wp_rngE, wp_zipE, wp_dCall, wp_consS, wp_dLm, ws_skip, ws_seq, ws_sSet, ws_sIf, ws_sRet, ws_sExpr, ws_sPar, ws_sAsg, ws_sSto, ws_stoV, ws_bk, ws_ct, List.getElem?_cons_zero, List.getElem?_cons_succ, List.set_cons_zero, List.set_cons_succ, Option.some.injEq, exists_eq_left', exists_eq_left, fillA, backA, List.headD_cons, List.tail_cons, Option.map_some, setL, asgT, true_or, true_and, List.length_cons, List.length_nil, exists_eq', exists_const, gx_lst, gx_tup, gx_add, gx_sub, gx_lt, gx_le, gx_gt, gx_ge, gx_len, gx_lenD, gx_lenS, gx_neg, gx_list, gx_eqI, gx_neI, gx_eqS, gx_neS, gx_itL, gx_itl, gx_itD, gx_items, D.bl.injEq, D.int.injEq, D.lst.injEq, D.tup.injEq, D.dct.injEq, D.str.injEq, and_true, Bool.not_true, Bool.not_false, Bool.false_eq_true, Bool.true_eq_false, if_true, if_false, Bool.not_eq_true', decide_eq_true_eq, decide_eq_false_iff_not, wipeE, not_false_eq_true, wp_dRm, gx_ty, gx_isi, ii_s, ii_l, ii_d, Option.map_some, not_true_eq_false, ws_sSwp, gx_eqIX, gx_neIX, gx_eqSX, gx_neSX, gx_listW, wp_dLmP, ws_sSAug, ws_sSto2, wp_nilP, wp_consP, wp_dDisp0, ep, c, decide_false]
    exact hN _ _ _ _ hs hm hl
  · refine wp_bT.mpr ?_
    have neg1 : gNeg (.int 1) = some (.int (-1)) := rfl
    simp (config := { maxSteps := 3000000 }) only [wp_dC, wp_dV, wp_d1, wp_d2, wp_nilA, wp_consA, wp_dN, wp_bT, wp_bNot, wp_bAnd, wp_bOr, wp_bYes, wp_dIf, wp_dNot, wp_dAnd, wp_dOr, wp_dChain, wp_oNone, wp_oSome, wp_dSl, wp_dUp, wp_itE, wp_itKE, wp_itemsE, wp_valsE, wp_rngE, wp_zipE, wp_dCall, wp_consS, wp_dLm, ws_skip, ws_seq, ws_sSet, ws_sIf, ws_sRet, ws_sExpr, ws_sPar, ws_sAsg, ws_sSto, ws_stoV, ws_bk, ws_ct, List.getElem?_cons_zero, List.getElem?_cons_succ, List.set_cons_zero, List.set_cons_succ, Option.some.injEq, exists_eq_left', exists_eq_left, fillA, backA, List.headD_cons, List.tail_cons, Option.map_some, setL, asgT, true_or, true_and, List.length_cons, List.length_nil, exists_eq', exists_const, gx_lst, gx_tup, gx_add, gx_sub, gx_lt, gx_le, gx_gt, gx_ge, gx_len, gx_lenD, gx_lenS, gx_neg, gx_list, gx_eqI, gx_neI, gx_eqS, gx_neS, gx_itL, gx_itl, gx_itD, gx_items, D.bl.injEq, D.int.injEq, D.lst.injEq, D.tup.injEq, D.dct.injEq, D.str.injEq, and_true, Bool.not_true, Bool.not_false, Bool.false_eq_true, Bool.true_eq_false, if_true, if_false, Bool.not_eq_true', decide_eq_true_eq, decide_eq_false_iff_not, wipeE, not_false_eq_true, wp_dRm, gx_ty, gx_isi, ii_s, ii_l, ii_d, Option.map_some, not_true_eq_false, ws_sSwp, gx_eqIX, gx_neIX, gx_eqSX, gx_neSX, gx_listW, wp_dLmP, ws_sSAug, ws_sSto2, wp_nilP, wp_consP, wp_dDisp0, ep, c, decide_true, neg1, last_sD]
    refine wp_dLcM2 (fun d => match d with | .str s => !decide (s = y) | _ => false) id (sD ms) [a0, a1, a2, some (.lst (sD ms)), some (.lst (sD (p ++ [y]))), some (.str y), a6, a7, a8, x9, a10, a11, a12, a13, a14, a15] ?_ (by omega) ?_ ?_
    · simp (config := { maxSteps := 3000000 }) only [wp_dC, wp_dV, wp_d1, wp_d2, wp_nilA, wp_consA, wp_dN, wp_bT, wp_bNot, wp_bAnd, wp_bOr, wp_bYes, wp_dIf, wp_dNot, wp_dAnd, wp_dOr, wp_dChain, wp_oNone, wp_oSome, wp_dSl, wp_dUp, wp_itE, wp_itKE, wp_itemsE, wp_valsE, wp_rngE, wp_zipE, wp_dCall, wp_consS, wp_dLm, ws_skip, ws_seq, ws_sSet, ws_sIf, ws_sRet, ws_sExpr, ws_sPar, ws_sAsg, ws_sSto, ws_stoV, ws_bk, ws_ct, List.getElem?_cons_zero, List.getElem?_cons_succ, List.set_cons_zero, List.set_cons_succ, Option.some.injEq, exists_eq_left', exists_eq_left, fillA, backA, List.headD_cons, List.tail_cons, Option.map_some, setL, asgT, true_or, true_and, List.length_cons, List.length_nil, exists_eq', exists_const, gx_lst, gx_tup, gx_add, gx_sub, gx_lt, gx_le, gx_gt, gx_ge, gx_len, gx_lenD, gx_lenS, gx_neg, gx_list, gx_eqI, gx_neI, gx_eqS, gx_neS, gx_itL, gx_itl, gx_itD, gx_items, D.bl.injEq, D.int.injEq, D.lst.injEq, D.tup.injEq, D.dct.injEq, D.str.injEq, and_true, Bool.not_true, Bool.not_false, Bool.false_eq_true, Bool.true_eq_false, if_true, if_false, Bool.not_eq_true', decide_eq_true_eq, decide_eq_false_iff_not, wipeE, not_false_eq_true, wp_dRm, gx_ty, gx_isi, ii_s, ii_l, ii_d, Option.map_some, not_true_eq_false, ws_sSwp, gx_eqIX, gx_neIX, gx_eqSX, gx_neSX, gx_listW, wp_dLmP, ws_sSAug, ws_sSto2, wp_nilP, wp_consP, wp_dDisp0]
    · intro d hd
      obtain ⟨s, hs, rfl⟩ := List.mem_map.mp hd
      refine ⟨_, rfl, ?_⟩
      by_cases c : s = y
      · simp (config := { maxSteps := 3000000 }) only [wp_dC, wp_dV, wp_d1, wp_d2, wp_nilA, wp_consA, wp_dN, wp_bT, wp_bNot, wp_bAnd, wp_bOr, wp_bYes, wp_dIf, wp_dNot, wp_dAnd, wp_dOr, wp_dChain, wp_oNone, wp_oSome, wp_dSl, wp_dUp, wp_itE, wp_itKE, wp_itemsE, wp_valsE, wp_rngE, wp_zipE, wp_dCall, wp_consS, wp_dLm, ws_skip, ws_seq, ws_sSet, ws_sIf, ws_sRet, ws_sExpr, ws_sPar, ws_sAsg, ws_sSto, ws_stoV, ws_bk, ws_ct, List.getElem?_cons_zero, List.getElem?_cons_succ, List.set_cons_zero, List.set_cons_succ, Option.some.injEq, exists_eq_left', exists_eq_left, fillA, backA, List.headD_cons, List.tail_cons, Option.map_some, setL, asgT, true_or, true_and, List.length_cons, List.length_nil, exists_eq', exists_const, gx_lst, gx_tup, gx_add, gx_sub, gx_lt, gx_le, gx_gt, gx_ge, gx_len, gx_lenD, gx_lenS, gx_neg, gx_list, gx_eqI, gx_neI, gx_eqS, gx_neS, gx_itL, gx_itl, gx_itD, gx_items, D.bl.injEq, D.int.injEq, D.lst.injEq, D.tup.injEq, D.dct.injEq, D.str.injEq, and_true, Bool.not_true, Bool.not_false, Bool.false_eq_true, Bool.true_eq_false, if_true, if_false, Bool.not_eq_true', decide_eq_true_eq, decide_eq_false_iff_not, wipeE, not_false_eq_true, wp_dRm, gx_ty, gx_isi, ii_s, ii_l, ii_d, Option.map_some, not_true_eq_false, ws_sSwp, gx_eqIX, gx_neIX, gx_eqSX, gx_neSX, gx_listW, wp_dLmP, ws_sSAug, ws_sSto2, wp_nilP, wp_consP, wp_dDisp0, c, decide_true]
      · simp (config := { maxSteps := 3000000 }) only [wp_dC, wp_dV, wp_d1, wp_d2, wp_nilA, wp_consA, wp_dN, wp_bT, wp_bNot, wp_bAnd, wp_bOr, wp_bYes, wp_dIf, wp_dNot, wp_dAnd, wp_dOr, wp_dChain, wp_oNone, wp_oSome, wp_dSl, wp_dUp, wp_itE, wp_itKE, wp_itemsE, wp_valsE, wp_rngE, wp_zipE, wp_dCall, wp_consS, wp_dLm, ws_skip, ws_seq, ws_sSet, ws_sIf, ws_sRet, ws_sExpr, ws_sPar, ws_sAsg, ws_sSto, ws_stoV, ws_bk, ws_ct, List.getElem?_cons_zero, List.getElem?_cons_succ, List.set_cons_zero, List.set_cons_succ, Option.some.injEq, exists_eq_left', exists_eq_left, fillA, backA, List.headD_cons, List.tail_cons, Option.map_some, setL, asgT, true_or, true_and, List.length_cons, List.length_nil, exists_eq', exists_const, gx_lst, gx_tup, gx_add, gx_sub, gx_lt, gx_le, gx_gt, gx_ge, gx_len, gx_lenD, gx_lenS, gx_neg, gx_list, gx_eqI, gx_neI, gx_eqS, gx_neS, gx_itL, gx_itl, gx_itD, gx_items, D.bl.injEq, D.int.injEq, D.lst.injEq, D.tup.injEq, D.dct.injEq, D.str.injEq, and_true, Bool.not_true, Bool.not_false, Bool.false_eq_true, Bool.true_eq_false, if_true, if_false, Bool.not_eq_true', decide_eq_true_eq, decide_eq_false_iff_not, wipeE, not_false_eq_true, wp_dRm, gx_ty, gx_isi, ii_s, ii_l, ii_d, Option.map_some, not_true_eq_false, ws_sSwp, gx_eqIX, gx_neIX, gx_eqSX, gx_neSX, gx_listW, wp_dLmP, ws_sSAug, ws_sSto2, wp_nilP, wp_consP, wp_dDisp0, c, decide_false, id]
    rw [show (List.map id (List.filter (fun d => match d with | .str s => !decide (s = y) | _ => false) (sD ms))) = sD (ms.filter fun s => !decide (s = y)) from flt_sD (fun s => !decide (s = y))]
    obtain ⟨x0, hx0, nx0⟩ := two_ex hM.nd h2 y
    have hne : x0 ∈ ms.filter (fun s => !decide (s = y)) := List.mem_filter.mpr ⟨hx0, by simpa using nx0⟩
    have hol : (ms.filter fun s => !decide (s = y)).length ≤ 12 := Nat.le_trans (List.length_filter_le ..) h12
    have hnd : (y :: ms.filter fun s => !decide (s = y)).Nodup := List.nodup_cons.mpr ⟨fun z => by have := (List.mem_filter.mp z).2; simp at this, hM.nd.sublist (List.filter_sublist ..)⟩
    have hfm : ∀ x ∈ ms.filter (fun s => !decide (s = y)), x ∈ ms := fun x hx => (List.mem_filter.mp hx).1
    generalize ms.filter (fun s => !decide (s = y)) = fs at hne hol hnd hfm ⊢
    have ec : gCat (.lst (sD (p ++ [y]))) (.lst (sD fs)) = some (.lst (sD (p ++ y :: fs))) := by
      rw [cat_is (by rw [ep, List.length_map]; omega), sD, sD, sD, ← List.map_append]
      simp
    refine ⟨_, ec, ?_⟩
    rcases List.eq_nil_or_concat fs with z | ⟨q, w, ew⟩
    · rw [z] at hne; cases hne
    rw [List.concat_eq_append] at ew
    subst ew
    have e : p ++ y :: (q ++ [w]) = (p ++ y :: q) ++ [w] := by simp
    rw [List.length_append, List.length_singleton] at hol
    have hh := hs_app hs (hs_nd hnd)
    have c' : p.length + 1 < 61 := by omega
    refine ⟨1000 - (p ++ y :: q).length, ?_, p ++ y :: q, w, some (.str y), none, by rw [← e]; rfl, by rw [← e]; exact hh, fun x hx => ?_, ?_, ?_⟩
    · rw [List.length_append, List.length_cons]; omega
    · rw [← e] at hx
      rcases List.mem_append.mp hx with hx | hx
      · exact hm x (List.mem_append_left _ hx)
      · rcases List.mem_cons.mp hx with hx | hx
        · rw [hx]; exact hm y (by simp)
        · exact hfm x hx
    · rw [List.length_append, List.length_cons]; omega
    · rw [List.length_append, List.length_cons]; omega
/-! ### k06: the law -/
theorem gt_len {h : List Str} {t : Nat} (h1 : t < h.length) : PD.gSub (.lst (sD h)) (.int (t : Nat)) = some (.str (h.getD t "")) := gx_at (by
  rw [sD, List.getElem?_map, List.getD_eq_getElem?_getD, List.getElem?_eq_getElem h1]; rfl)
theorem itK_c {ks : List (Str × Str)} {c : Str × Str → Nat} : itK (cD ks c) = some (ks.map fun q => .tup [.str q.1, .str q.2]) := by
  show (if ((ks.map fun q => (kP q, D.int (c q : Nat))).all fun p => decide (p.1.length ≤ 8)) = true then some ((ks.map fun q => (kP q, D.int (c q : Nat))).map fun p => D.tup (p.1.map kD)) else none) = _
  rw [if_pos (by rw [List.all_map, List.all_eq_true]; exact fun q _ => rfl), List.map_map]
  rfl
theorem sub_c {ks : List (Str × Str)} {c : Str × Str → Nat} {q : Str × Str} (h : q ∈ ks) : PD.gSub (cD ks c) (.tup [.str q.1, .str q.2]) = some (.int (c q : Nat)) := by
  show (keysOf (.tup [.str q.1, .str q.2])).bind (valD (ks.map fun q => (kP q, D.int (c q : Nat)))) = _
  rw [keys_pair]
  show valD _ (kP q) = _
  rw [valC, if_pos h]
theorem wp_cnt {a0 a1 a2 a3 a4 a5 a6 a8 a10 a11 a12 a13 a14 a15 : Option D} {i : D} {sel : Str × Str → Str} (hsel : ∀ q : Str × Str, PD.gSub (.tup [.str q.1, .str q.2]) i = some (.str (sel q))) {h : List Str} {ks : List (Str × Str)} {m : Str} {Q : D → Ev → Prop} (H : Hv h ks) (hl : h.length ≤ 1000)
    (hQ : ∀ d, gSum [d] = some (.int (((h.zip h.tail).countP fun q => decide (sel q = m)) : Nat)) → Q d [a0, a1, a2, a3, a4, a5, a6, some (cD ks (h.zip h.tail).count), a8, some (.str m), a10, a11, a12, a13, a14, none]) :
    Wp (dLc (itKE (dV 7)) (.nm 15) (bT (d2 gEqX (d2 PD.gSub (dV 15) (dC i)) (dV 9))) (d2 PD.gSub (dV 7) (dV 15)) [15]) [a0, a1, a2, a3, a4, a5, a6, some (cD ks (h.zip h.tail).count), a8, some (.str m), a10, a11, a12, a13, a14, a15] Q := by
  have zl : 2000 < sizeLine := by decide
  have hkl := H.len
  refine wp_dLcM2 (fun d => match d with | .tup [.str a, .str b] => decide (sel (a, b) = m) | _ => false) (fun d => match d with | .tup [.str a, .str b] => .int ((h.zip h.tail).count (a, b) : Nat) | d => d) (ks.map fun q => .tup [.str q.1, .str q.2]) [a0, a1, a2, a3, a4, a5, a6, some (cD ks (h.zip h.tail).count), a8, some (.str m), a10, a11, a12, a13, a14, a15] ?_ (by rw [List.length_map]; omega) ?_ ?_
  · refine wp_itKE.mpr (wp_dV.mpr ⟨_, rfl, _, itK_c, rfl, rfl⟩)
  · intro d hd
    obtain ⟨q, hq, rfl⟩ := List.mem_map.mp hd
    refine ⟨_, rfl, ?_⟩
    have es := sub_c (c := (h.zip h.tail).count) hq
    by_cases c : sel q = m
    · simp (config := { maxSteps := 3000000 }) only [wp_dC, wp_dV, wp_d1, wp_d2, wp_nilA, wp_consA, wp_dN, wp_bT, wp_bNot, wp_bAnd, wp_bOr, wp_bYes, wp_dIf, wp_dNot, wp_dAnd, wp_dOr, wp_dChain, wp_oNone, wp_oSome, wp_dSl, wp_dUp, wp_itE, wp_itKE, wp_itemsE, wp_valsE, wp_rngE, wp_zipE, wp_dCall, wp_consS, wp_dLm, ws_skip, ws_seq, ws_sSet, ws_sIf, ws_sRet, ws_sExpr, ws_sPar, ws_sAsg, ws_sSto, ws_stoV, ws_bk, ws_ct, List.getElem?_cons_zero, List.getElem?_cons_succ, List.set_cons_zero, List.set_cons_succ, Option.some.injEq, exists_eq_left', exists_eq_left, fillA, backA, List.headD_cons, List.tail_cons, Option.map_some, setL, asgT, true_or, true_and, List.length_cons, List.length_nil, exists_eq', exists_const, gx_lst, gx_tup, gx_add, gx_sub, gx_lt, gx_le, gx_gt, gx_ge, gx_len, gx_lenD, gx_lenS, gx_neg, gx_list, gx_eqI, gx_neI, gx_eqS, gx_neS, gx_itL, gx_itl, gx_itD, gx_items, D.bl.injEq, D.int.injEq, D.lst.injEq, D.tup.injEq, D.dct.injEq, D.str.injEq, and_true, Bool.not_true, Bool.not_false, Bool.false_eq_true, Bool.true_eq_false, if_true, if_false, Bool.not_eq_true', decide_eq_true_eq, decide_eq_false_iff_not, wipeE, not_false_eq_true, wp_dRm, gx_ty, gx_isi, ii_s, ii_l, ii_d, Option.map_some, not_true_eq_false, ws_sSwp, gx_eqIX, gx_neIX, gx_eqSX, gx_neSX, gx_listW, wp_dLmP, ws_sSAug, ws_sSto2, wp_nilP, wp_consP, wp_dDisp0, hsel, c, decide_true, es]
    · simp (config := { maxSteps := 3000000 }) only [wp_dC, wp_dV, wp_d1, wp_d2, wp_nilA, wp_consA, wp_dN, wp_bT, wp_bNot, wp_bAnd, wp_bOr, wp_bYes, wp_dIf, wp_dNot, wp_dAnd, wp_dOr, wp_dChain, wp_oNone, wp_oSome, wp_dSl, wp_dUp, wp_itE, wp_itKE, wp_itemsE, wp_valsE, wp_rngE, wp_zipE, wp_dCall, wp_consS, wp_dLm, ws_skip, ws_seq, ws_sSet, ws_sIf, ws_sRet, ws_sExpr, ws_sPar, ws_sAsg, ws_sSto, ws_stoV, ws_bk, ws_ct, List.getElem?_cons_zero, List.getElem?_cons_succ, List.set_cons_zero, List.set_cons_succ, Option.some.injEq, exists_eq_left', exists_eq_left, fillA, backA, List.headD_cons, List.tail_cons, Option.map_some, setL, asgT, true_or, true_and, List.length_cons, List.length_nil, exists_eq', exists_const, gx_lst, gx_tup, gx_add, gx_sub, gx_lt, gx_le, gx_gt, gx_ge, gx_len, gx_lenD, gx_lenS, gx_neg, gx_list, gx_eqI, gx_neI, gx_eqS, gx_neS, gx_itL, gx_itl, gx_itD, gx_items, D.bl.injEq, D.int.injEq, D.lst.injEq, D.tup.injEq, D.dct.injEq, D.str.injEq, and_true, Bool.not_true, Bool.not_false, Bool.false_eq_true, Bool.true_eq_false, if_true, if_false, Bool.not_eq_true', decide_eq_true_eq, decide_eq_false_iff_not, wipeE, not_false_eq_true, wp_dRm, gx_ty, gx_isi, ii_s, ii_l, ii_d, Option.map_some, not_true_eq_false, ws_sSwp, gx_eqIX, gx_neIX, gx_eqSX, gx_neSX, gx_listW, wp_dLmP, ws_sSAug, ws_sSto2, wp_nilP, wp_consP, wp_dDisp0, hsel, c, decide_false, es]
  · refine hQ _ ?_
    have e : ((ks.map fun q => D.tup [.str q.1, .str q.2]).filter fun d => match d with | .tup [.str a, .str b] => decide (sel (a, b) = m) | _ => false).map (fun d => match d with | .tup [.str a, .str b] => .int ((h.zip h.tail).count (a, b) : Nat) | d => d) = iD ((ks.filter fun q => decide (sel q = m)).map (h.zip h.tail).count) := by
      rw [List.filter_map, List.map_map, iD, List.map_map]
      rfl
    rw [e, sumN, cSum _ _ _ H.nd fun q hq => (H.mem q).mpr hq]
def memS : DS := (sFor (.nm 9) (itKE (dV 3)) (seq (sSet 10 (dCall m_turns_of [.val (.own 0), .val (.own 0), .val (.own 0)] sg_turns_of true (consA (dV 3) (consA (dV 4) (consA (dV 9) nilA)))))
  (seq (sSet 8 (d2 gCat (dV 8) (dV 10)))
  (seq (sIf (bT (d2 gNeX (d2 PD.gSub (dV 6) (dV 9)) (dLc (itKE (dV 10)) (.nm 14) (bT (d2 gGt (dV 14) (dC (.int 0)))) (d2 PD.gSub (dV 4) (d2 gSubI (dV 14) (dC (.int 1)))) [14]))) (sRet (dC (.bl false))) skip)
  (seq (sSet 11 (dN gSum (consA (dLc (itKE (dV 7)) (.nm 15) (bT (d2 gEqX (d2 PD.gSub (dV 15) (dC (.int 0))) (dV 9))) (d2 PD.gSub (dV 7) (dV 15)) [15]) nilA)))
  (seq (sSet 12 (dN gSum (consA (dLc (itKE (dV 7)) (.nm 15) (bT (d2 gEqX (d2 PD.gSub (dV 15) (dC (.int 1))) (dV 9))) (d2 PD.gSub (dV 7) (dV 15)) [15]) nilA)))
  (seq (sIf (bT (d2 gNeX (dV 12) (dN gLen (consA (d2 PD.gSub (dV 6) (dV 9)) nilA)))) (sRet (dC (.bl false))) skip)
  (sIf (bT (d2 gNeX (dV 11) (d2 gSubI (dN gLen (consA (dV 10) nilA)) (dN gInt (consA (d2 gEqX (d2 PD.gSub (dV 4) (d1 gNeg (dC (.int 1)))) (dV 9)) nilA))))) (sRet (dC (.bl false))) skip))))))))
theorem tn_lens {ms h : List Str} (nd : ms.Nodup) (hm : ∀ x ∈ h, x ∈ ms) (j : Nat) : ((ms.take j).flatMap (tn h)).length ≤ h.length := by
  have := (tn_all nd h hm).length_eq
  rw [List.length_range] at this
  have e : ms.flatMap (tn h) = (ms.take j).flatMap (tn h) ++ (ms.drop j).flatMap (tn h) := by
    conv => lhs; rw [← List.take_append_drop j ms]
    rw [List.flatMap_append]
  rw [e, List.length_append] at this
  omega
theorem ok_mem {a0 a1 a2 a5 a9 a10 a11 a12 a13 a14 a15 : Option D} {ms p : List Str} {y : Str} {ks : List (Str × Str)} {N : Ev → Prop} {R : D → Ev → Prop} {B C : Ev → Prop} (hM : Mems ms) (hs : Hs (p ++ [y])) (hm : ∀ x ∈ p ++ [y], x ∈ ms) (hl : p.length ≤ 149) (H : Hv (p ++ [y]) ks)
    (hN : ∀ x9 x10 x11 x12 x14 x15, N [a0, a1, a2, some (.lst (sD ms)), some (.lst (sD (p ++ [y]))), a5, some (gD ms (gv (p ++ [y]))), some (cD ks ((p ++ [y]).zip (p ++ [y]).tail).count), some (.lst (iD (ms.flatMap (tn (p ++ [y]))))), x9, x10, x11, x12, a13, x14, x15]) :
    Ws memS [a0, a1, a2, some (.lst (sD ms)), some (.lst (sD (p ++ [y]))), a5, some (gD ms (gv (p ++ [y]))), some (cD ks ((p ++ [y]).zip (p ++ [y]).tail).count), some (.lst (iD [])), a9, a10, a11, a12, a13, a14, a15] N R B C := by
  have zl : 2000 < sizeLine := by decide
  have h12 := hM.le
  have em : (sD ms).length = ms.length := List.length_map ..
  have hlen : (p ++ [y]).length = p.length + 1 := by rw [List.length_append]; rfl
  have hlast : (p ++ [y]).getLast? = some y := by rw [List.getLast?_concat]
  have h0 : p ++ [y] ≠ [] := by simp
  have hls : PD.gSub (.lst (sD (p ++ [y]))) (.int (-1)) = some (.str y) := last_sD
  generalize p ++ [y] = h at *
  have okh : ∀ x ∈ h, PyData.strOk x = true := fun x hx => (hM.nm x (hm x hx)).ok
  unfold memS
  refine ws_for2 (fun ds e1 => ds = sD ms ∧ e1 = [a0, a1, a2, some (.lst (sD ms)), some (.lst (sD h)), a5, some (gD ms (gv h)), some (cD ks (h.zip h.tail).count), some (.lst (iD [])), a9, a10, a11, a12, a13, a14, a15]) (fun _ _ j e => ∃ x9 x10 x11 x12 x14 x15, e = [a0, a1, a2, some (.lst (sD ms)), some (.lst (sD h)), a5, some (gD ms (gv h)), some (cD ks (h.zip h.tail).count), some (.lst (iD ((ms.take j).flatMap (tn h)))), x9, x10, x11, x12, a13, x14, x15]) ?_ ?_ ?_ ?_
  · simp (config := { maxSteps := 3000000 }) only [wp_dC, wp_dV, wp_d1, wp_d2, wp_nilA, wp_consA, wp_dN, wp_bT, wp_bNot, wp_bAnd, wp_bOr, wp_bYes, wp_dIf, wp_dNot, wp_dAnd, wp_dOr, wp_dChain, wp_oNone, wp_oSome, wp_dSl, wp_dUp, wp_itE, wp_itKE, wp_itemsE, wp_valsE, wp_rngE, wp_zipE, wp_dCall, wp_consS, wp_dLm, ws_skip, ws_seq, ws_sSet, ws_sIf, ws_sRet, ws_sExpr, ws_sPar, ws_sAsg, ws_sSto, ws_stoV, ws_bk, ws_ct, List.getElem?_cons_zero, List.getElem?_cons_succ, List.set_cons_zero, List.set_cons_succ, Option.some.injEq, exists_eq_left', exists_eq_left, fillA, backA, List.headD_cons, List.tail_cons, Option.map_some, setL, asgT, true_or, true_and, List.length_cons, List.length_nil, exists_eq', exists_const, gx_lst, gx_tup, gx_add, gx_sub, gx_lt, gx_le, gx_gt, gx_ge, gx_len, gx_lenD, gx_lenS, gx_neg, gx_list, gx_eqI, gx_neI, gx_eqS, gx_neS, gx_itL, gx_itl, gx_itD, gx_items, D.bl.injEq, D.int.injEq, D.lst.injEq, D.tup.injEq, D.dct.injEq, D.str.injEq, and_true, Bool.not_true, Bool.not_false, Bool.false_eq_true, Bool.true_eq_false, if_true, if_false, Bool.not_eq_true', decide_eq_true_eq, decide_eq_false_iff_not, wipeE, not_false_eq_true, wp_dRm, gx_ty, gx_isi, ii_s, ii_l, ii_d, Option.map_some, not_true_eq_false, ws_sSwp, gx_eqIX, gx_neIX, gx_eqSX, gx_neSX, gx_listW, wp_dLmP, ws_sSAug, ws_sSto2, wp_nilP, wp_consP, wp_dDisp0]
  · rintro _ _ ⟨rfl, rfl⟩
    exact ⟨_, _, _, _, _, _, rfl⟩
  · rintro _ _ ⟨rfl, rfl⟩ j d e hd ⟨x9, x10, x11, x12, x14, x15, rfl⟩
    rw [List.getElem?_map] at hd
    obtain ⟨m, hj, rfl⟩ := Option.map_eq_some_iff.mp hd
    have hmm : m ∈ ms := List.mem_of_getElem? hj
    refine ⟨_, rfl, ?_⟩
    refine ws_seq.mpr ?_
    simp (config := { maxSteps := 3000000 }) only [wp_dC, wp_dV, wp_d1, wp_d2, wp_nilA, wp_consA, wp_dN, wp_bT, wp_bNot, wp_bAnd, wp_bOr, wp_bYes, wp_dIf, wp_dNot, wp_dAnd, wp_dOr, wp_dChain, wp_oNone, wp_oSome, wp_dSl, wp_dUp, wp_itE, wp_itKE, wp_itemsE, wp_valsE, wp_rngE, wp_zipE, wp_dCall, wp_consS, wp_dLm, ws_skip, ws_seq, ws_sSet, ws_sIf, ws_sRet, ws_sExpr, ws_sPar, ws_sAsg, ws_sSto, ws_stoV, ws_bk, ws_ct, List.getElem?_cons_zero, List.getElem?_cons_succ, List.set_cons_zero, List.set_cons_succ, Option.some.injEq, exists_eq_left', exists_eq_left, fillA, backA, List.headD_cons, List.tail_cons, Option.map_some, setL, asgT, true_or, true_and, List.length_cons, List.length_nil, exists_eq', exists_const, gx_lst, gx_tup, gx_add, gx_sub, gx_lt, gx_le, gx_gt, gx_ge, gx_len, gx_lenD, gx_lenS, gx_neg, gx_list, gx_eqI, gx_neI, gx_eqS, gx_neS, gx_itL, gx_itl, gx_itD, gx_items, D.bl.injEq, D.int.injEq, D.lst.injEq, D.tup.injEq, D.dct.injEq, D.str.injEq, and_true, Bool.not_true, Bool.not_false, Bool.false_eq_true, Bool.true_eq_false, if_true, if_false, Bool.not_eq_true', decide_eq_true_eq, decide_eq_false_iff_not, wipeE, not_false_eq_true, wp_dRm, gx_ty, gx_isi, ii_s, ii_l, ii_d, Option.map_some, not_true_eq_false, ws_sSwp, gx_eqIX, gx_neIX, gx_eqSX, gx_neSX, gx_listW, wp_dLmP, ws_sSAug, ws_sSto2, wp_nilP, wp_consP, wp_dDisp0]
    refine (ok_turns hM h0 hm hs (by omega) hmm).mono fun r _ e1 => ?_
    subst e1
    have tk : (ms.take (j + 1)).flatMap (tn h) = (ms.take j).flatMap (tn h) ++ tn h m := by
      rw [List.take_add_one, hj]
      show (ms.take j ++ [m]).flatMap (tn h) = _
      rw [List.flatMap_append, List.flatMap_cons, List.flatMap_nil, List.append_nil]
    have l1 := tn_lens hM.nd hm j
    have l2 : (tn h m).length ≤ h.length := by rw [tn_len]; exact List.count_le_length
    have ec := catN (xs := (ms.take j).flatMap (tn h)) (ys := tn h m) (by omega)
    have es := subM (v := fun m => D.lst (sD (gv h m))) hmm
    try simp (config := { maxSteps := 3000000 }) only [wp_dC, wp_dV, wp_d1, wp_d2, wp_nilA, wp_consA, wp_dN, wp_bT, wp_bNot, wp_bAnd, wp_bOr, wp_bYes, wp_dIf, wp_dNot, wp_dAnd, wp_dOr, wp_dChain, wp_oNone, wp_oSome, wp_dSl, wp_dUp, wp_itE, wp_itKE, wp_itemsE, wp_valsE, wp_rngE, wp_zipE, wp_dCall, wp_consS, wp_dLm, ws_skip, ws_seq, ws_sSet, ws_sIf, ws_sRet, ws_sExpr, ws_sPar, ws_sAsg, ws_sSto, ws_stoV, ws_bk, ws_ct, List.getElem?_cons_zero, List.getElem?_cons_succ, List.set_cons_zero, List.set_cons_succ, Option.some.injEq, exists_eq_left', exists_eq_left, fillA, backA, List.headD_cons, List.tail_cons, Option.map_some, setL, asgT, true_or, true_and, List.length_cons, List.length_nil, exists_eq', exists_const, gx_lst, gx_tup, gx_add, gx_sub, gx_lt, gx_le, gx_gt, gx_ge, gx_len, gx_lenD, gx_lenS, gx_neg, gx_list, gx_eqI, gx_neI, gx_eqS, gx_neS, gx_itL, gx_itl, gx_itD, gx_items, D.bl.injEq, D.int.injEq, D.lst.injEq, D.tup.injEq, D.dct.injEq, D.str.injEq, and_true, Bool.not_true, Bool.not_false, Bool.false_eq_true, Bool.true_eq_false, if_true, if_false, Bool.not_eq_true', decide_eq_true_eq, decide_eq_false_iff_not, wipeE, not_false_eq_true, wp_dRm, gx_ty, gx_isi, ii_s, ii_l, ii_d, Option.map_some, not_true_eq_false, ws_sSwp, gx_eqIX, gx_neIX, gx_eqSX, gx_neSX, gx_listW, wp_dLmP, ws_sSAug, ws_sSto2, wp_nilP, wp_consP, wp_dDisp0, ec, es]
    refine wp_dLcM2 (fun d => match d with | .int i => decide (0 < i) | _ => false) (fun d => match d with | .int i => .str (h.getD (i.toNat - 1) "") | d => d) (iD (tn h m)) [a0, a1, a2, some (.lst (sD ms)), some (.lst (sD h)), a5, some (gD ms (gv h)), some (cD ks (h.zip h.tail).count), some (.lst (iD ((ms.take j).flatMap (tn h) ++ tn h m))), some (.str m), some (.lst (iD (tn h m))), x11, x12, a13, x14, x15] ?_ (by rw [List.length_map]; omega) ?_ ?_
    · simp (config := { maxSteps := 3000000 }) only [wp_dC, wp_dV, wp_d1, wp_d2, wp_nilA, wp_consA, wp_dN, wp_bT, wp_bNot, wp_bAnd, wp_bOr, wp_bYes, wp_dIf, wp_dNot, wp_dAnd, wp_dOr, wp_dChain, wp_oNone, wp_oSome, wp_dSl, wp_dUp, wp_itE, wp_itKE, wp_itemsE, wp_valsE, wp_rngE, wp_zipE, wp_dCall, wp_consS, wp_dLm, ws_skip, ws_seq, ws_sSet, ws_sIf, ws_sRet, ws_sExpr, ws_sPar, ws_sAsg, ws_sSto, ws_stoV, ws_bk, ws_ct, List.getElem?_cons_zero, List.getElem?_cons_succ, List.set_cons_zero, List.set_cons_succ, Option.some.injEq, exists_eq_left', exists_eq_left, fillA, backA, List.headD_cons, List.tail_cons, Option.map_some, setL, asgT, true_or, true_and, List.length_cons, List.length_nil, exists_eq', exists_const, gx_lst, gx_tup, gx_add, gx_sub, gx_lt, gx_le, gx_gt, gx_ge, gx_len, gx_lenD, gx_lenS, gx_neg, gx_list, gx_eqI, gx_neI, gx_eqS, gx_neS, gx_itL, gx_itl, gx_itD, gx_items, D.bl.injEq, D.int.injEq, D.lst.injEq, D.tup.injEq, D.dct.injEq, D.str.injEq, and_true, Bool.not_true, Bool.not_false, Bool.false_eq_true, Bool.true_eq_false, if_true, if_false, Bool.not_eq_true', decide_eq_true_eq, decide_eq_false_iff_not, wipeE, not_false_eq_true, wp_dRm, gx_ty, gx_isi, ii_s, ii_l, ii_d, Option.map_some, not_true_eq_false, ws_sSwp, gx_eqIX, gx_neIX, gx_eqSX, gx_neSX, gx_listW, wp_dLmP, ws_sSAug, ws_sSto2, wp_nilP, wp_consP, wp_dDisp0]
    · intro d hd
      obtain ⟨t, ht, rfl⟩ := List.mem_map.mp hd
      refine ⟨_, rfl, ?_⟩
      have hlt := (List.getElem?_eq_some_iff.mp (tn_lt ht)).1
      by_cases c : (0 : Int) < (t : Nat)
      · have e1 : gSubI (.int (t : Nat)) (.int 1) = some (.int ((t - 1 : Nat) : Nat)) := by
          show some (D.int (((t : Nat) : Int) - 1)) = _
          rw [show ((t : Nat) : Int) - 1 = ((t - 1 : Nat) : Int) by omega]
        have e2 := gt_len (h := h) (t := t - 1) (by omega)
        simp (config := { maxSteps := 3000000 }) only [wp_dC, wp_dV, wp_d1, wp_d2, wp_nilA, wp_consA, wp_dN, wp_bT, wp_bNot, wp_bAnd, wp_bOr, wp_bYes, wp_dIf, wp_dNot, wp_dAnd, wp_dOr, wp_dChain, wp_oNone, wp_oSome, wp_dSl, wp_dUp, wp_itE, wp_itKE, wp_itemsE, wp_valsE, wp_rngE, wp_zipE, wp_dCall, wp_consS, wp_dLm, ws_skip, ws_seq, ws_sSet, ws_sIf, ws_sRet, ws_sExpr, ws_sPar, ws_sAsg, ws_sSto, ws_stoV, ws_bk, ws_ct, List.getElem?_cons_zero, List.getElem?_cons_succ, List.set_cons_zero, List.set_cons_succ, Option.some.injEq, exists_eq_left', exists_eq_left, fillA, backA, List.headD_cons, List.tail_cons, Option.map_some, setL, asgT, true_or, true_and, List.length_cons, List.length_nil, exists_eq', exists_const, gx_lst, gx_tup, gx_add, gx_sub, gx_lt, gx_le, gx_gt, gx_ge, gx_len, gx_lenD, gx_lenS, gx_neg, gx_list, gx_eqI, gx_neI, gx_eqS, gx_neS, gx_itL, gx_itl, gx_itD, gx_items, D.bl.injEq, D.int.injEq, D.lst.injEq, D.tup.injEq, D.dct.injEq, D.str.injEq, and_true, Bool.not_true, Bool.not_false, Bool.false_eq_true, Bool.true_eq_false, if_true, if_false, Bool.not_eq_true', decide_eq_true_eq, decide_eq_false_iff_not, wipeE, not_false_eq_true, wp_dRm, gx_ty, gx_isi, ii_s, ii_l, ii_d, Option.map_some, not_true_eq_false, ws_sSwp, gx_eqIX, gx_neIX, gx_eqSX, gx_neSX, gx_listW, wp_dLmP, ws_sSAug, ws_sSto2, wp_nilP, wp_consP, wp_dDisp0, c, decide_true, e1, e2, Int.toNat_natCast]
      · simp (config := { maxSteps := 3000000 }) only [wp_dC, wp_dV, wp_d1, wp_d2, wp_nilA, wp_consA, wp_dN, wp_bT, wp_bNot, wp_bAnd, wp_bOr, wp_bYes, wp_dIf, wp_dNot, wp_dAnd, wp_dOr, wp_dChain, wp_oNone, wp_oSome, wp_dSl, wp_dUp, wp_itE, wp_itKE, wp_itemsE, wp_valsE, wp_rngE, wp_zipE, wp_dCall, wp_consS, wp_dLm, ws_skip, ws_seq, ws_sSet, ws_sIf, ws_sRet, ws_sExpr, ws_sPar, ws_sAsg, ws_sSto, ws_stoV, ws_bk, ws_ct, List.getElem?_cons_zero, List.getElem?_cons_succ, List.set_cons_zero, List.set_cons_succ, Option.some.injEq, exists_eq_left', exists_eq_left, fillA, backA, List.headD_cons, List.tail_cons, Option.map_some, setL, asgT, true_or, true_and, List.length_cons, List.length_nil, exists_eq', exists_const, gx_lst, gx_tup, gx_add, gx_sub, gx_lt, gx_le, gx_gt, gx_ge, gx_len, gx_lenD, gx_lenS, gx_neg, gx_list, gx_eqI, gx_neI, gx_eqS, gx_neS, gx_itL, gx_itl, gx_itD, gx_items, D.bl.injEq, D.int.injEq, D.lst.injEq, D.tup.injEq, D.dct.injEq, D.str.injEq, and_true, Bool.not_true, Bool.not_false, Bool.false_eq_true, Bool.true_eq_false, if_true, if_false, Bool.not_eq_true', decide_eq_true_eq, decide_eq_false_iff_not, wipeE, not_false_eq_true, wp_dRm, gx_ty, gx_isi, ii_s, ii_l, ii_d, Option.map_some, not_true_eq_false, ws_sSwp, gx_eqIX, gx_neIX, gx_eqSX, gx_neSX, gx_listW, wp_dLmP, ws_sSAug, ws_sSto2, wp_nilP, wp_consP, wp_dDisp0, c, decide_false]
    have e3 : ((iD (tn h m)).filter fun d => match d with | .int i => decide (0 < i) | _ => false).map (fun d => match d with | .int i => .str (h.getD (i.toNat - 1) "") | d => d) = sD (gv h m) := by
      rw [← tn_gv h, iD, List.filter_map, List.map_map, sD, List.map_map]
      have : (tn h m).filter ((fun d => match d with | .int i => decide (0 < i) | _ => false) ∘ fun n : Nat => D.int (n : Nat)) = (tn h m).filter fun t => decide (0 < t) := List.filter_congr fun t _ => by
        show decide ((0 : Int) < (t : Nat)) = decide (0 < t)
        by_cases z : 0 < t
        · rw [decide_eq_true z, decide_eq_true (by omega)]
        · rw [decide_eq_false z, decide_eq_false (by omega)]
      rw [this]
      rfl
    rw [e3]
    refine ⟨_, neS_self fun x hx => okh x (gv_mem hx).1, ?_⟩
    try simp (config := { maxSteps := 3000000 }) only [wp_dC, wp_dV, wp_d1, wp_d2, wp_nilA, wp_consA, wp_dN, wp_bT, wp_bNot, wp_bAnd, wp_bOr, wp_bYes, wp_dIf, wp_dNot, wp_dAnd, wp_dOr, wp_dChain, wp_oNone, wp_oSome, wp_dSl, wp_dUp, wp_itE, wp_itKE, wp_itemsE, wp_valsE, wp_rngE, wp_zipE, wp_dCall, wp_consS, wp_dLm, ws_skip, ws_seq, ws_sSet, ws_sIf, ws_sRet, ws_sExpr, ws_sPar, ws_sAsg, ws_sSto, ws_stoV, ws_bk, ws_ct, List.getElem?_cons_zero, List.getElem?_cons_succ, List.set_cons_zero, List.set_cons_succ, Option.some.injEq, exists_eq_left', exists_eq_left, fillA, backA, List.headD_cons, List.tail_cons, Option.map_some, setL, asgT, true_or, true_and, List.length_cons, List.length_nil, exists_eq', exists_const, gx_lst, gx_tup, gx_add, gx_sub, gx_lt, gx_le, gx_gt, gx_ge, gx_len, gx_lenD, gx_lenS, gx_neg, gx_list, gx_eqI, gx_neI, gx_eqS, gx_neS, gx_itL, gx_itl, gx_itD, gx_items, D.bl.injEq, D.int.injEq, D.lst.injEq, D.tup.injEq, D.dct.injEq, D.str.injEq, and_true, Bool.not_true, Bool.not_false, Bool.false_eq_true, Bool.true_eq_false, if_true, if_false, Bool.not_eq_true', decide_eq_true_eq, decide_eq_false_iff_not, wipeE, not_false_eq_true, wp_dRm, gx_ty, gx_isi, ii_s, ii_l, ii_d, Option.map_some, not_true_eq_false, ws_sSwp, gx_eqIX, gx_neIX, gx_eqSX, gx_neSX, gx_listW, wp_dLmP, ws_sSAug, ws_sSto2, wp_nilP, wp_consP, wp_dDisp0]
    refine wp_cnt (i := .int 0) (sel := Prod.fst) (fun _ => by rfl) H (by omega) fun d hd1 => ⟨_, hd1, ?_⟩
    try simp (config := { maxSteps := 3000000 }) only [wp_dC, wp_dV, wp_d1, wp_d2, wp_nilA, wp_consA, wp_dN, wp_bT, wp_bNot, wp_bAnd, wp_bOr, wp_bYes, wp_dIf, wp_dNot, wp_dAnd, wp_dOr, wp_dChain, wp_oNone, wp_oSome, wp_dSl, wp_dUp, wp_itE, wp_itKE, wp_itemsE, wp_valsE, wp_rngE, wp_zipE, wp_dCall, wp_consS, wp_dLm, ws_skip, ws_seq, ws_sSet, ws_sIf, ws_sRet, ws_sExpr, ws_sPar, ws_sAsg, ws_sSto, ws_stoV, ws_bk, ws_ct, List.getElem?_cons_zero, List.getElem?_cons_succ, List.set_cons_zero, List.set_cons_succ, Option.some.injEq, exists_eq_left', exists_eq_left, fillA, backA, List.headD_cons, List.tail_cons, Option.map_some, setL, asgT, true_or, true_and, List.length_cons, List.length_nil, exists_eq', exists_const, gx_lst, gx_tup, gx_add, gx_sub, gx_lt, gx_le, gx_gt, gx_ge, gx_len, gx_lenD, gx_lenS, gx_neg, gx_list, gx_eqI, gx_neI, gx_eqS, gx_neS, gx_itL, gx_itl, gx_itD, gx_items, D.bl.injEq, D.int.injEq, D.lst.injEq, D.tup.injEq, D.dct.injEq, D.str.injEq, and_true, Bool.not_true, Bool.not_false, Bool.false_eq_true, Bool.true_eq_false, if_true, if_false, Bool.not_eq_true', decide_eq_true_eq, decide_eq_false_iff_not, wipeE, not_false_eq_true, wp_dRm, gx_ty, gx_isi, ii_s, ii_l, ii_d, Option.map_some, not_true_eq_false, ws_sSwp, gx_eqIX, gx_neIX, gx_eqSX, gx_neSX, gx_listW, wp_dLmP, ws_sSAug, ws_sSto2, wp_nilP, wp_consP, wp_dDisp0]
    refine wp_cnt (i := .int 1) (sel := Prod.snd) (fun _ => by rfl) H (by omega) fun d hd2 => ⟨_, hd2, ?_⟩
    have g1 := tn_given (m := m) h y hlast
    have g2 := tn_got (m := m) (h := h)
    have el : (sD (gv h m)).length = (gv h m).length := List.length_map ..
    have et : (iD (tn h m)).length = (tn h m).length := List.length_map ..
    have hls2 : ∀ b : Bool, gInt [.bl b] = some (.int (if b then 1 else 0)) := fun b => by cases b <;> rfl
    by_cases c : y = m
    · rw [if_pos c] at g1
      simp (config := { maxSteps := 3000000 }) only [wp_dC, wp_dV, wp_d1, wp_d2, wp_nilA, wp_consA, wp_dN, wp_bT, wp_bNot, wp_bAnd, wp_bOr, wp_bYes, wp_dIf, wp_dNot, wp_dAnd, wp_dOr, wp_dChain, wp_oNone, wp_oSome, wp_dSl, wp_dUp, wp_itE, wp_itKE, wp_itemsE, wp_valsE, wp_rngE, wp_zipE, wp_dCall, wp_consS, wp_dLm, ws_skip, ws_seq, ws_sSet, ws_sIf, ws_sRet, ws_sExpr, ws_sPar, ws_sAsg, ws_sSto, ws_stoV, ws_bk, ws_ct, List.getElem?_cons_zero, List.getElem?_cons_succ, List.set_cons_zero, List.set_cons_succ, Option.some.injEq, exists_eq_left', exists_eq_left, fillA, backA, List.headD_cons, List.tail_cons, Option.map_some, setL, asgT, true_or, true_and, List.length_cons, List.length_nil, exists_eq', exists_const, gx_lst, gx_tup, gx_add, gx_sub, gx_lt, gx_le, gx_gt, gx_ge, gx_len, gx_lenD, gx_lenS, gx_neg, gx_list, gx_eqI, gx_neI, gx_eqS, gx_neS, gx_itL, gx_itl, gx_itD, gx_items, D.bl.injEq, D.int.injEq, D.lst.injEq, D.tup.injEq, D.dct.injEq, D.str.injEq, and_true, Bool.not_true, Bool.not_false, Bool.false_eq_true, Bool.true_eq_false, if_true, if_false, Bool.not_eq_true', decide_eq_true_eq, decide_eq_false_iff_not, wipeE, not_false_eq_true, wp_dRm, gx_ty, gx_isi, ii_s, ii_l, ii_d, Option.map_some, not_true_eq_false, ws_sSwp, gx_eqIX, gx_neIX, gx_eqSX, gx_neSX, gx_listW, wp_dLmP, ws_sSAug, ws_sSto2, wp_nilP, wp_consP, wp_dDisp0, es, el, et, g2, hls, c, decide_true, hls2]
      rw [if_neg fun z => z (by omega), tk]
      exact ⟨_, _, _, _, _, _, rfl⟩
    · rw [if_neg c] at g1
      simp (config := { maxSteps := 3000000 }) only [wp_dC, wp_dV, wp_d1, wp_d2, wp_nilA, wp_consA, wp_dN, wp_bT, wp_bNot, wp_bAnd, wp_bOr, wp_bYes, wp_dIf, wp_dNot, wp_dAnd, wp_dOr, wp_dChain, wp_oNone, wp_oSome, wp_dSl, wp_dUp, wp_itE, wp_itKE, wp_itemsE, wp_valsE, wp_rngE, wp_zipE, wp_dCall, wp_consS, wp_dLm, ws_skip, ws_seq, ws_sSet, ws_sIf, ws_sRet, ws_sExpr, ws_sPar, ws_sAsg, ws_sSto, ws_stoV, ws_bk, ws_ct, List.getElem?_cons_zero, List.getElem?_cons_succ, List.set_cons_zero, List.set_cons_succ, Option.some.injEq, exists_eq_left', exists_eq_left, fillA, backA, List.headD_cons, List.tail_cons, Option.map_some, setL, asgT, true_or, true_and, List.length_cons, List.length_nil, exists_eq', exists_const, gx_lst, gx_tup, gx_add, gx_sub, gx_lt, gx_le, gx_gt, gx_ge, gx_len, gx_lenD, gx_lenS, gx_neg, gx_list, gx_eqI, gx_neI, gx_eqS, gx_neS, gx_itL, gx_itl, gx_itD, gx_items, D.bl.injEq, D.int.injEq, D.lst.injEq, D.tup.injEq, D.dct.injEq, D.str.injEq, and_true, Bool.not_true, Bool.not_false, Bool.false_eq_true, Bool.true_eq_false, if_true, if_false, Bool.not_eq_true', decide_eq_true_eq, decide_eq_false_iff_not, wipeE, not_false_eq_true, wp_dRm, gx_ty, gx_isi, ii_s, ii_l, ii_d, Option.map_some, not_true_eq_false, ws_sSwp, gx_eqIX, gx_neIX, gx_eqSX, gx_neSX, gx_listW, wp_dLmP, ws_sSAug, ws_sSto2, wp_nilP, wp_consP, wp_dDisp0, es, el, et, g2, hls, c, decide_false, hls2]
      rw [if_neg fun z => z (by omega), tk]
      exact ⟨_, _, _, _, _, _, rfl⟩
  · rintro _ _ ⟨rfl, rfl⟩ e ⟨x9, x10, x11, x12, x14, x15, rfl⟩
    rw [List.length_map, List.take_length]
    exact hN _ _ _ _ _ _
theorem ok_crew6 {a0 a1 a3 a4 a5 a6 a7 a8 a9 a10 a11 a12 a13 a14 a15 : Option D} {t : D} {n : Nat} {Q : D → Ev → Prop} (ht : Tn t n) (hn : n ≤ 1000)
    (hQ : ∀ k1 t', k1 < 7 → Tn t' (n + 1) → Q (.lst (sD (nms.take (6 + k1)))) [a0, a1, some t', a3, a4, a5, a6, a7, a8, a9, a10, a11, a12, none, a14, a15]) :
    Wp (dLc (itE (dSl (dC (.str "abcdefghijkl")) oNone (oSome (d2 gAdd (dC (.int 6)) (dCall m_l_dig [.slt 2, .val (.own 0)] sg_l_dig true (consS 2 (consA (dC (.int 7)) nilA))))))) (.nm 13) bYes (d2 gAdd (dC (.str "n")) (dV 13)) [13]) [a0, a1, some t, a3, a4, a5, a6, a7, a8, a9, a10, a11, a12, a13, a14, a15] Q := by
  have zl : 2000 < sizeLine := by decide
  refine wp_dLcM (fun _ => true) (fun d => match d with | .str s => .str ("n" ++ s) | d => d) ?_
  simp (config := { maxSteps := 3000000 }) only [wp_dC, wp_dV, wp_d1, wp_d2, wp_nilA, wp_consA, wp_dN, wp_bT, wp_bNot, wp_bAnd, wp_bOr, wp_bYes, wp_dIf, wp_dNot, wp_dAnd, wp_dOr, wp_dChain, wp_oNone, wp_oSome, wp_dSl, wp_dUp, wp_itE, wp_itKE, wp_itemsE, wp_valsE, wp_rngE, wp_zipE, wp_dCall, wp_consS, wp_dLm, ws_skip, ws_seq, ws_sSet, ws_sIf, ws_sRet, ws_sExpr, ws_sPar, ws_sAsg, ws_sSto, ws_stoV, ws_bk, ws_ct, List.getElem?_cons_zero, List.getElem?_cons_succ, List.set_cons_zero, List.set_cons_succ, Option.some.injEq, exists_eq_left', exists_eq_left, fillA, backA, List.headD_cons, List.tail_cons, Option.map_some, setL, asgT, true_or, true_and, List.length_cons, List.length_nil, exists_eq', exists_const, gx_lst, gx_tup, gx_add, gx_sub, gx_lt, gx_le, gx_gt, gx_ge, gx_len, gx_lenD, gx_lenS, gx_neg, gx_list, gx_eqI, gx_neI, gx_eqS, gx_neS, gx_itL, gx_itl, gx_itD, gx_items, D.bl.injEq, D.int.injEq, D.lst.injEq, D.tup.injEq, D.dct.injEq, D.str.injEq, and_true, Bool.not_true, Bool.not_false, Bool.false_eq_true, Bool.true_eq_false, if_true, if_false, Bool.not_eq_true', decide_eq_true_eq, decide_eq_false_iff_not, wipeE, not_false_eq_true, wp_dRm, gx_ty, gx_isi, ii_s, ii_l, ii_d, Option.map_some, not_true_eq_false, ws_sSwp, gx_eqIX, gx_neIX, gx_eqSX, gx_neSX, gx_listW, wp_dLmP, ws_sSAug, ws_sSto2, wp_nilP, wp_consP, wp_dDisp0]
  obtain ⟨r2, ds2, g1, k1, rfl, hk1, t1, rfl, ht1⟩ := ok_dig (m := 7) ht (by omega) (by omega) (by omega)
  refine ⟨_, _, g1, ?_⟩
  have hk1 : k1 < 7 := by omega
  obtain ⟨s, es, hsl, hsd, hms⟩ := cut_let hk1
  try simp (config := { maxSteps := 3000000 }) only [wp_dC, wp_dV, wp_d1, wp_d2, wp_nilA, wp_consA, wp_dN, wp_bT, wp_bNot, wp_bAnd, wp_bOr, wp_bYes, wp_dIf, wp_dNot, wp_dAnd, wp_dOr, wp_dChain, wp_oNone, wp_oSome, wp_dSl, wp_dUp, wp_itE, wp_itKE, wp_itemsE, wp_valsE, wp_rngE, wp_zipE, wp_dCall, wp_consS, wp_dLm, ws_skip, ws_seq, ws_sSet, ws_sIf, ws_sRet, ws_sExpr, ws_sPar, ws_sAsg, ws_sSto, ws_stoV, ws_bk, ws_ct, List.getElem?_cons_zero, List.getElem?_cons_succ, List.set_cons_zero, List.set_cons_succ, Option.some.injEq, exists_eq_left', exists_eq_left, fillA, backA, List.headD_cons, List.tail_cons, Option.map_some, setL, asgT, true_or, true_and, List.length_cons, List.length_nil, exists_eq', exists_const, gx_lst, gx_tup, gx_add, gx_sub, gx_lt, gx_le, gx_gt, gx_ge, gx_len, gx_lenD, gx_lenS, gx_neg, gx_list, gx_eqI, gx_neI, gx_eqS, gx_neS, gx_itL, gx_itl, gx_itD, gx_items, D.bl.injEq, D.int.injEq, D.lst.injEq, D.tup.injEq, D.dct.injEq, D.str.injEq, and_true, Bool.not_true, Bool.not_false, Bool.false_eq_true, Bool.true_eq_false, if_true, if_false, Bool.not_eq_true', decide_eq_true_eq, decide_eq_false_iff_not, wipeE, not_false_eq_true, wp_dRm, gx_ty, gx_isi, ii_s, ii_l, ii_d, Option.map_some, not_true_eq_false, ws_sSwp, gx_eqIX, gx_neIX, gx_eqSX, gx_neSX, gx_listW, wp_dLmP, ws_sSAug, ws_sSto2, wp_nilP, wp_consP, wp_dDisp0]
  refine ⟨_, es, ?_⟩
  refine ⟨_, rfl, by rw [List.length_map]; omega, fun d hd => ?_, ?_⟩
  · obtain ⟨x, rfl, hx⟩ := hsd d hd
    have : gAdd (.str "n") (.str x) = some (.str ("n" ++ x)) := by
      show (if (("n" : String) : Str).length + x.length ≤ sizeLine then some (D.str ("n" ++ x)) else none) = _
      rw [if_pos (by rw [hx]; decide)]
    exact ⟨_, this, rfl⟩
  have e13 : (List.filter (fun _ => true) (s.cps.toList.map chr1)).map (fun d => match d with | .str s => .str ("n" ++ s) | d => d) = sD (nms.take (6 + k1)) := by
    rw [List.filter_eq_self.mpr fun _ _ => rfl]; exact hms
  rw [e13]
  exact hQ k1 t1 hk1 ht1
theorem ok_chk {ms h : List Str} (hM : Mems ms) (h0 : h ≠ []) (hm : ∀ x ∈ h, x ∈ ms) (hs : Hs h) (hl : h.length ≤ 10000) {e : Ev} {c : DS} {N : Ev → Prop} {R : D → Ev → Prop} {B C : Ev → Prop} (e3 : e[3]? = some (some (.lst (sD ms)))) (e4 : e[4]? = some (some (.lst (sD h)))) (hN : N e) :
    Ws (sIf (bNot (bT (dCall m_is_history [.val (.own 0), .val (.own 0)] sg_is_history true (consA (dV 3) (consA (dV 4) nilA))))) c skip) e N R B C := by
  simp (config := { maxSteps := 3000000 }) only [wp_dC, wp_dV, wp_d1, wp_d2, wp_nilA, wp_consA, wp_dN, wp_bT, wp_bNot, wp_bAnd, wp_bOr, wp_bYes, wp_dIf, wp_dNot, wp_dAnd, wp_dOr, wp_dChain, wp_oNone, wp_oSome, wp_dSl, wp_dUp, wp_itE, wp_itKE, wp_itemsE, wp_valsE, wp_rngE, wp_zipE, wp_dCall, wp_consS, wp_dLm, ws_skip, ws_seq, ws_sSet, ws_sIf, ws_sRet, ws_sExpr, ws_sPar, ws_sAsg, ws_sSto, ws_stoV, ws_bk, ws_ct, List.getElem?_cons_zero, List.getElem?_cons_succ, List.set_cons_zero, List.set_cons_succ, Option.some.injEq, exists_eq_left', exists_eq_left, fillA, backA, List.headD_cons, List.tail_cons, Option.map_some, setL, asgT, true_or, true_and, List.length_cons, List.length_nil, exists_eq', exists_const, gx_lst, gx_tup, gx_add, gx_sub, gx_lt, gx_le, gx_gt, gx_ge, gx_len, gx_lenD, gx_lenS, gx_neg, gx_list, gx_eqI, gx_neI, gx_eqS, gx_neS, gx_itL, gx_itl, gx_itD, gx_items, D.bl.injEq, D.int.injEq, D.lst.injEq, D.tup.injEq, D.dct.injEq, D.str.injEq, and_true, Bool.not_true, Bool.not_false, Bool.false_eq_true, Bool.true_eq_false, if_true, if_false, Bool.not_eq_true', decide_eq_true_eq, decide_eq_false_iff_not, wipeE, not_false_eq_true, wp_dRm, gx_ty, gx_isi, ii_s, ii_l, ii_d, Option.map_some, not_true_eq_false, ws_sSwp, gx_eqIX, gx_neIX, gx_eqSX, gx_neSX, gx_listW, wp_dLmP, ws_sSAug, ws_sSto2, wp_nilP, wp_consP, wp_dDisp0, e3, e4]
  refine (ok_is_history hM (fun x hx => (hM.nm x (hm x hx)).ok) (by omega)).mono fun r5 _ ⟨b, e5, hb⟩ => ?_
  have : b = true := hb.mpr ⟨h0, hm, hs⟩
  subst e5; subst this
  simp (config := { maxSteps := 3000000 }) only [wp_dC, wp_dV, wp_d1, wp_d2, wp_nilA, wp_consA, wp_dN, wp_bT, wp_bNot, wp_bAnd, wp_bOr, wp_bYes, wp_dIf, wp_dNot, wp_dAnd, wp_dOr, wp_dChain, wp_oNone, wp_oSome, wp_dSl, wp_dUp, wp_itE, wp_itKE, wp_itemsE, wp_valsE, wp_rngE, wp_zipE, wp_dCall, wp_consS, wp_dLm, ws_skip, ws_seq, ws_sSet, ws_sIf, ws_sRet, ws_sExpr, ws_sPar, ws_sAsg, ws_sSto, ws_stoV, ws_bk, ws_ct, List.getElem?_cons_zero, List.getElem?_cons_succ, List.set_cons_zero, List.set_cons_succ, Option.some.injEq, exists_eq_left', exists_eq_left, fillA, backA, List.headD_cons, List.tail_cons, Option.map_some, setL, asgT, true_or, true_and, List.length_cons, List.length_nil, exists_eq', exists_const, gx_lst, gx_tup, gx_add, gx_sub, gx_lt, gx_le, gx_gt, gx_ge, gx_len, gx_lenD, gx_lenS, gx_neg, gx_list, gx_eqI, gx_neI, gx_eqS, gx_neS, gx_itL, gx_itl, gx_itD, gx_items, D.bl.injEq, D.int.injEq, D.lst.injEq, D.tup.injEq, D.dct.injEq, D.str.injEq, and_true, Bool.not_true, Bool.not_false, Bool.false_eq_true, Bool.true_eq_false, if_true, if_false, Bool.not_eq_true', decide_eq_true_eq, decide_eq_false_iff_not, wipeE, not_false_eq_true, wp_dRm, gx_ty, gx_isi, ii_s, ii_l, ii_d, Option.map_some, not_true_eq_false, ws_sSwp, gx_eqIX, gx_neIX, gx_eqSX, gx_neSX, gx_listW, wp_dLmP, ws_sSAug, ws_sSto2, wp_nilP, wp_consP, wp_dDisp0]
  exact hN
theorem ok_end {ms p : List Str} {y : Str} {e : Ev} {N : Ev → Prop} {R : D → Ev → Prop} {B C : Ev → Prop} (hM : Mems ms) (hm : ∀ x ∈ p ++ [y], x ∈ ms) (hpl : p.length ≤ 149) (e4 : e[4]? = some (some (.lst (sD (p ++ [y]))))) (e8 : e[8]? = some (some (.lst (iD (ms.flatMap (tn (p ++ [y]))))))) (hN : N e) :
    Ws (sIf (bT (d2 gNeX (dN (one1 sortVI) (consA (dV 8) nilA)) (d1 gRngL (dN gLen (consA (dV 4) nilA))))) (sRet (dC (.bl false))) skip) e N R B C := by
  have hlen : (p ++ [y]).length = p.length + 1 := by rw [List.length_append]; rfl
  have esz : (sD (p ++ [y])).length = p.length + 1 := by rw [List.length_map, hlen]
  have hp := tn_all hM.nd (p ++ [y]) hm
  rw [hlen] at hp
  have e6 := sortVI_range (n := p.length + 1) (by omega) hp
  have e9 := rngL_is (n := p.length + 1) (by omega)
  simp (config := { maxSteps := 3000000 }) only [wp_dC, wp_dV, wp_d1, wp_d2, wp_nilA, wp_consA, wp_dN, wp_bT, wp_bNot, wp_bAnd, wp_bOr, wp_bYes, wp_dIf, wp_dNot, wp_dAnd, wp_dOr, wp_dChain, wp_oNone, wp_oSome, wp_dSl, wp_dUp, wp_itE, wp_itKE, wp_itemsE, wp_valsE, wp_rngE, wp_zipE, wp_dCall, wp_consS, wp_dLm, ws_skip, ws_seq, ws_sSet, ws_sIf, ws_sRet, ws_sExpr, ws_sPar, ws_sAsg, ws_sSto, ws_stoV, ws_bk, ws_ct, List.getElem?_cons_zero, List.getElem?_cons_succ, List.set_cons_zero, List.set_cons_succ, Option.some.injEq, exists_eq_left', exists_eq_left, fillA, backA, List.headD_cons, List.tail_cons, Option.map_some, setL, asgT, true_or, true_and, List.length_cons, List.length_nil, exists_eq', exists_const, gx_lst, gx_tup, gx_add, gx_sub, gx_lt, gx_le, gx_gt, gx_ge, gx_len, gx_lenD, gx_lenS, gx_neg, gx_list, gx_eqI, gx_neI, gx_eqS, gx_neS, gx_itL, gx_itl, gx_itD, gx_items, D.bl.injEq, D.int.injEq, D.lst.injEq, D.tup.injEq, D.dct.injEq, D.str.injEq, and_true, Bool.not_true, Bool.not_false, Bool.false_eq_true, Bool.true_eq_false, if_true, if_false, Bool.not_eq_true', decide_eq_true_eq, decide_eq_false_iff_not, wipeE, not_false_eq_true, wp_dRm, gx_ty, gx_isi, ii_s, ii_l, ii_d, Option.map_some, not_true_eq_false, ws_sSwp, gx_eqIX, gx_neIX, gx_eqSX, gx_neSX, gx_listW, wp_dLmP, ws_sSAug, ws_sSto2, wp_nilP, wp_consP, wp_dDisp0, e4, e8, one1, e6, esz, e9, neN, decide_true]
  exact hN
theorem ok_law {ns : List Int} (hl : ns.length ≤ 63) : Wf m_law [.scr ns] fun r _ => r = .bl true := by
  refine wf_sem ?_
  show Ws b_law [some _, none, none, none, none, none, none, none, none, none, none, none, none, none, none, none] _ _ _ _
  unfold b_law
  have zl : 2000 < sizeLine := by decide
  refine ws_seq.mpr ?_
  refine ws_for2 (fun ds e1 => ∃ k, k ≤ 6 ∧ ds = (List.range k).map (fun i => D.int (i : Nat)) ∧ e1 = [some (.scr ns), none, none, none, none, none, none, none, none, none, none, none, none, none, none, none]) (fun _ _ _ e => ∃ a1 a2 a3 a4 a5 a6 a7 a8 a9 a10 a11 a12 a13 a14 a15, e = [some (.scr ns), a1, a2, a3, a4, a5, a6, a7, a8, a9, a10, a11, a12, a13, a14, a15]) ?_ ?_ ?_ ?_
  · simp (config := { maxSteps := 3000000 }) only [wp_dC, wp_dV, wp_d1, wp_d2, wp_nilA, wp_consA, wp_dN, wp_bT, wp_bNot, wp_bAnd, wp_bOr, wp_bYes, wp_dIf, wp_dNot, wp_dAnd, wp_dOr, wp_dChain, wp_oNone, wp_oSome, wp_dSl, wp_dUp, wp_itE, wp_itKE, wp_itemsE, wp_valsE, wp_rngE, wp_zipE, wp_dCall, wp_consS, wp_dLm, ws_skip, ws_seq, ws_sSet, ws_sIf, ws_sRet, ws_sExpr, ws_sPar, ws_sAsg, ws_sSto, ws_stoV, ws_bk, ws_ct, List.getElem?_cons_zero, List.getElem?_cons_succ, List.set_cons_zero, List.set_cons_succ, Option.some.injEq, exists_eq_left', exists_eq_left, fillA, backA, List.headD_cons, List.tail_cons, Option.map_some, setL, asgT, true_or, true_and, List.length_cons, List.length_nil, exists_eq', exists_const, gx_lst, gx_tup, gx_add, gx_sub, gx_lt, gx_le, gx_gt, gx_ge, gx_len, gx_lenD, gx_lenS, gx_neg, gx_list, gx_eqI, gx_neI, gx_eqS, gx_neS, gx_itL, gx_itl, gx_itD, gx_items, D.bl.injEq, D.int.injEq, D.lst.injEq, D.tup.injEq, D.dct.injEq, D.str.injEq, and_true, Bool.not_true, Bool.not_false, Bool.false_eq_true, Bool.true_eq_false, if_true, if_false, Bool.not_eq_true', decide_eq_true_eq, decide_eq_false_iff_not, wipeE, not_false_eq_true, wp_dRm, gx_ty, gx_isi, ii_s, ii_l, ii_d, Option.map_some, not_true_eq_false, ws_sSwp, gx_eqIX, gx_neIX, gx_eqSX, gx_neSX, gx_listW, wp_dLmP, ws_sSAug, ws_sSto2, wp_nilP, wp_consP, wp_dDisp0]
    exact ⟨_, min_is (a := 2), _, max_is (a := 1), _, rng_is (by omega), _, by omega, rfl⟩
  · rintro _ _ ⟨k, hk, rfl, rfl⟩
    exact ⟨_, _, _, _, _, _, _, _, _, _, _, _, _, _, _, rfl⟩
  · rintro _ _ ⟨k, hk, rfl, rfl⟩ j d e hd ⟨a1, a2, a3, a4, a5, a6, a7, a8, a9, a10, a11, a12, a13, a14, a15, rfl⟩
    rw [List.getElem?_map] at hd
    obtain ⟨i, hi, rfl⟩ := Option.map_eq_some_iff.mp hd
    have hi : i < k := List.mem_range.mp (List.mem_of_getElem? hi)
    refine ⟨_, rfl, ws_seq.mpr (ws_sSet.mpr ?_)⟩
    refine wp_dCall.mpr ?_
    refine wp_consA.mpr (wp_dV.mpr ⟨_, rfl, wp_consA.mpr (wp_dV.mpr ⟨_, rfl, wp_nilA.mpr ⟨_, rfl, ?_⟩⟩)⟩)
    refine (ok_stock (ns := ns) (k := i) (by omega)).mono fun r ds' ⟨ht, e2⟩ => ⟨.inl rfl, ?_⟩
    refine ws_seq.mpr (ws_sSet.mpr ?_)
    refine ok_crew6 ht (by omega) fun k1 t1 hk1 ht1 => ?_
    have hM := mems_nms hk1
    have hml := mems_nms_len hk1
    generalize nms.take (6 + k1) = ms at hM hml
    refine ws_seq.mpr (ws_sSet.mpr ?_)
    refine wp_dCall.mpr (wp_consS.mpr ⟨_, rfl, wp_consA.mpr (wp_dV.mpr ⟨_, rfl, wp_consA.mpr (wp_dC.mpr (wp_nilA.mpr ⟨_, rfl, ?_⟩))⟩)⟩)
    refine (ok_history hM ht1 (many := 149) (by omega) (by omega)).mono fun r4 ds4 ⟨p, y, t4, e3, hs, hm, hpl, e4, ht4⟩ => ⟨.inl rfl, ?_⟩
    subst e3; subst e4
    refine ws_seq.mpr ?_
    refine ok_long hM (by omega) hs hm hpl fun p y x5 x9 hs hm hpl => ?_
    have h0 : p ++ [y] ≠ [] := by simp
    have hlen : (p ++ [y]).length = p.length + 1 := by rw [List.length_append]; rfl
    have okh : ∀ x ∈ p ++ [y], PyData.strOk x = true := fun x hx => (hM.nm x (hm x hx)).ok
    refine ws_seq.mpr (ok_chk hM h0 hm hs (by omega) rfl rfl ?_)
    refine ws_seq.mpr (ws_sPar.mpr ?_)
    refine wp_consA.mpr (wp_dCall.mpr (wp_consA.mpr (wp_dV.mpr ⟨_, rfl, wp_consA.mpr (wp_dV.mpr ⟨_, rfl, wp_nilA.mpr ⟨_, rfl, ?_⟩⟩)⟩)))
    refine (ok_lists_of hM h0 hm hs (by omega)).mono fun r6 _ e6 => ⟨.inl rfl, ?_⟩
    subst e6
    refine wp_consA.mpr (wp_dCall.mpr (wp_consA.mpr (wp_dV.mpr ⟨_, rfl, wp_consA.mpr (wp_dV.mpr ⟨_, rfl, wp_nilA.mpr ⟨_, rfl, ?_⟩⟩)⟩)))
    refine (ok_handovers hM h0 hm hs (by omega)).mono fun r7 _ ⟨ks, e7, H⟩ => ⟨.inl rfl, ?_⟩
    subst e7
    refine wp_consA.mpr (wp_dN.mpr (wp_nilA.mpr ⟨_, rfl, wp_nilA.mpr ⟨rfl, ?_⟩⟩))
    refine ws_seq.mpr (ok_mem hM hs hm hpl H fun x9 x10 x11 x12 x14 x15 => ?_)
    exact ok_end hM hm hpl rfl rfl ⟨_, _, _, _, _, _, _, _, _, _, _, _, _, _, _, rfl⟩
  · rintro _ _ ⟨k, hk, rfl, rfl⟩ e ⟨a1, a2, a3, a4, a5, a6, a7, a8, a9, a10, a11, a12, a13, a14, a15, rfl⟩
    simp (config := { maxSteps := 3000000 }) only [wp_dC, wp_dV, wp_d1, wp_d2, wp_nilA, wp_consA, wp_dN, wp_bT, wp_bNot, wp_bAnd, wp_bOr, wp_bYes, wp_dIf, wp_dNot, wp_dAnd, wp_dOr, wp_dChain, wp_oNone, wp_oSome, wp_dSl, wp_dUp, wp_itE, wp_itKE, wp_itemsE, wp_valsE, wp_rngE, wp_zipE, wp_dCall, wp_consS, wp_dLm, ws_skip, ws_seq, ws_sSet, ws_sIf, ws_sRet, ws_sExpr, ws_sPar, ws_sAsg, ws_sSto, ws_stoV, ws_bk, ws_ct, List.getElem?_cons_zero, List.getElem?_cons_succ, List.set_cons_zero, List.set_cons_succ, Option.some.injEq, exists_eq_left', exists_eq_left, fillA, backA, List.headD_cons, List.tail_cons, Option.map_some, setL, asgT, true_or, true_and, List.length_cons, List.length_nil, exists_eq', exists_const, gx_lst, gx_tup, gx_add, gx_sub, gx_lt, gx_le, gx_gt, gx_ge, gx_len, gx_lenD, gx_lenS, gx_neg, gx_list, gx_eqI, gx_neI, gx_eqS, gx_neS, gx_itL, gx_itl, gx_itD, gx_items, D.bl.injEq, D.int.injEq, D.lst.injEq, D.tup.injEq, D.dct.injEq, D.str.injEq, and_true, Bool.not_true, Bool.not_false, Bool.false_eq_true, Bool.true_eq_false, if_true, if_false, Bool.not_eq_true', decide_eq_true_eq, decide_eq_false_iff_not, wipeE, not_false_eq_true, wp_dRm, gx_ty, gx_isi, ii_s, ii_l, ii_d, Option.map_some, not_true_eq_false, ws_sSwp, gx_eqIX, gx_neIX, gx_eqSX, gx_neSX, gx_listW, wp_dLmP, ws_sSAug, ws_sSto2, wp_nilP, wp_consP, wp_dDisp0]
    rfl
theorem fin_law {P : Program} {wo : World} {K : PySem.W.Frag} {mg : Str → Option Value} {base : Heap} (T : Txt K mg) : FnG P wo K mg base 7 T.f_law T.fd_law ["_law_script"] (spLaw K) := law_of (pd_law (CA := fun _ => 0) T) fun _ hl => ok_law hl
/-! ### what the top has written (printed by gen.py) -/
theorem all_mk {l : PySem.W.OpenLaw} {w : World} {K : PySem.W.Frag} {h : Heap} {mg : Str → Option Value} {fa f_is_name f_is_members f_need_members f_is_member f_need_member f_is_history f_need_history f_lists_of f_handovers_of f_turns_of f_l_stock f_l_dig f_l_history f_law : Addr} (X : K.In h) (G : h.Ns mainGlobals mg) (hfa : mg "law" = some (.ref fa))
    {od1 an1 : Option Addr} {sl1 : Array (Option Value)} {oc1 kV1 dc1 pm1 cd1 ct1 : Value} {od2 an2 : Option Addr} {sl2 : Array (Option Value)} {oc2 kV2 dc2 pm2 cd2 ct2 : Value} {od3 an3 : Option Addr} {sl3 : Array (Option Value)} {oc3 kV3 dc3 pm3 cd3 ct3 : Value} {od4 an4 : Option Addr} {sl4 : Array (Option Value)} {oc4 kV4 dc4 pm4 cd4 ct4 : Value} {od5 an5 : Option Addr} {sl5 : Array (Option Value)} {oc5 kV5 dc5 pm5 cd5 ct5 : Value} {od6 an6 : Option Addr} {sl6 : Array (Option Value)} {oc6 kV6 dc6 pm6 cd6 ct6 : Value} {od7 an7 : Option Addr} {sl7 : Array (Option Value)} {oc7 kV7 dc7 pm7 cd7 ct7 : Value} {od8 an8 : Option Addr} {sl8 : Array (Option Value)} {oc8 kV8 dc8 pm8 cd8 ct8 : Value} {od9 an9 : Option Addr} {sl9 : Array (Option Value)} {oc9 kV9 dc9 pm9 cd9 ct9 : Value} {od10 an10 : Option Addr} {sl10 : Array (Option Value)} {oc10 kV10 dc10 pm10 cd10 ct10 : Value} {od11 an11 : Option Addr} {sl11 : Array (Option Value)} {oc11 kV11 dc11 pm11 cd11 ct11 : Value} {od12 an12 : Option Addr} {sl12 : Array (Option Value)} {oc12 kV12 dc12 pm12 cd12 ct12 : Value} {od13 an13 : Option Addr} {sl13 : Array (Option Value)} {oc13 kV13 dc13 pm13 cd13 ct13 : Value} {od14 an14 : Option Addr} {sl14 : Array (Option Value)} {oc14 kV14 dc14 pm14 cd14 ct14 : Value} {t_LETTERS : Tok} {t_MAX_LETTERS : Tok} {t_MAX_MEMBERS : Tok}
    (a1 : PySem.W.nsIn K mainGlobals "is_name" = some (some (.ref f_is_name)))
    (l1 : K.lookup f_is_name = some ⟨oc1, od1, .func (PySem.W.fnOf "is_name" "is_name" (defArgs s_is_name) (defBody s_is_name) (defScope s_is_name) .none kV1 dc1 pm1 an1 cd1 ct1), sl1⟩)
    (c1 : PySem.W.codeIn K cd1 "is_name" = true) (k1 : PySem.W.keepIn K (.ref f_is_name) = true)
    (a2 : PySem.W.nsIn K mainGlobals "is_members" = some (some (.ref f_is_members)))
    (l2 : K.lookup f_is_members = some ⟨oc2, od2, .func (PySem.W.fnOf "is_members" "is_members" (defArgs s_is_members) (defBody s_is_members) (defScope s_is_members) .none kV2 dc2 pm2 an2 cd2 ct2), sl2⟩)
    (c2 : PySem.W.codeIn K cd2 "is_members" = true) (k2 : PySem.W.keepIn K (.ref f_is_members) = true)
    (a3 : PySem.W.nsIn K mainGlobals "need_members" = some (some (.ref f_need_members)))
    (l3 : K.lookup f_need_members = some ⟨oc3, od3, .func (PySem.W.fnOf "need_members" "need_members" (defArgs s_need_members) (defBody s_need_members) (defScope s_need_members) .none kV3 dc3 pm3 an3 cd3 ct3), sl3⟩)
    (c3 : PySem.W.codeIn K cd3 "need_members" = true) (k3 : PySem.W.keepIn K (.ref f_need_members) = true)
    (a4 : PySem.W.nsIn K mainGlobals "is_member" = some (some (.ref f_is_member)))
    (l4 : K.lookup f_is_member = some ⟨oc4, od4, .func (PySem.W.fnOf "is_member" "is_member" (defArgs s_is_member) (defBody s_is_member) (defScope s_is_member) .none kV4 dc4 pm4 an4 cd4 ct4), sl4⟩)
    (c4 : PySem.W.codeIn K cd4 "is_member" = true) (k4 : PySem.W.keepIn K (.ref f_is_member) = true)
    (a5 : PySem.W.nsIn K mainGlobals "need_member" = some (some (.ref f_need_member)))
    (l5 : K.lookup f_need_member = some ⟨oc5, od5, .func (PySem.W.fnOf "need_member" "need_member" (defArgs s_need_member) (defBody s_need_member) (defScope s_need_member) .none kV5 dc5 pm5 an5 cd5 ct5), sl5⟩)
    (c5 : PySem.W.codeIn K cd5 "need_member" = true) (k5 : PySem.W.keepIn K (.ref f_need_member) = true)
    (a6 : PySem.W.nsIn K mainGlobals "is_history" = some (some (.ref f_is_history)))
    (l6 : K.lookup f_is_history = some ⟨oc6, od6, .func (PySem.W.fnOf "is_history" "is_history" (defArgs s_is_history) (defBody s_is_history) (defScope s_is_history) .none kV6 dc6 pm6 an6 cd6 ct6), sl6⟩)
    (c6 : PySem.W.codeIn K cd6 "is_history" = true) (k6 : PySem.W.keepIn K (.ref f_is_history) = true)
    (a7 : PySem.W.nsIn K mainGlobals "need_history" = some (some (.ref f_need_history)))
    (l7 : K.lookup f_need_history = some ⟨oc7, od7, .func (PySem.W.fnOf "need_history" "need_history" (defArgs s_need_history) (defBody s_need_history) (defScope s_need_history) .none kV7 dc7 pm7 an7 cd7 ct7), sl7⟩)
    (c7 : PySem.W.codeIn K cd7 "need_history" = true) (k7 : PySem.W.keepIn K (.ref f_need_history) = true)
    (a8 : PySem.W.nsIn K mainGlobals "lists_of" = some (some (.ref f_lists_of)))
    (l8 : K.lookup f_lists_of = some ⟨oc8, od8, .func (PySem.W.fnOf "lists_of" "lists_of" (defArgs s_lists_of) (defBody s_lists_of) (defScope s_lists_of) .none kV8 dc8 pm8 an8 cd8 ct8), sl8⟩)
    (c8 : PySem.W.codeIn K cd8 "lists_of" = true) (k8 : PySem.W.keepIn K (.ref f_lists_of) = true)
    (a9 : PySem.W.nsIn K mainGlobals "handovers_of" = some (some (.ref f_handovers_of)))
    (l9 : K.lookup f_handovers_of = some ⟨oc9, od9, .func (PySem.W.fnOf "handovers_of" "handovers_of" (defArgs s_handovers_of) (defBody s_handovers_of) (defScope s_handovers_of) .none kV9 dc9 pm9 an9 cd9 ct9), sl9⟩)
    (c9 : PySem.W.codeIn K cd9 "handovers_of" = true) (k9 : PySem.W.keepIn K (.ref f_handovers_of) = true)
    (a10 : PySem.W.nsIn K mainGlobals "turns_of" = some (some (.ref f_turns_of)))
    (l10 : K.lookup f_turns_of = some ⟨oc10, od10, .func (PySem.W.fnOf "turns_of" "turns_of" (defArgs s_turns_of) (defBody s_turns_of) (defScope s_turns_of) .none kV10 dc10 pm10 an10 cd10 ct10), sl10⟩)
    (c10 : PySem.W.codeIn K cd10 "turns_of" = true) (k10 : PySem.W.keepIn K (.ref f_turns_of) = true)
    (a11 : PySem.W.nsIn K mainGlobals "_law_stock" = some (some (.ref f_l_stock)))
    (l11 : K.lookup f_l_stock = some ⟨oc11, od11, .func (PySem.W.fnOf "_law_stock" "_law_stock" (defArgs s_l_stock) (defBody s_l_stock) (defScope s_l_stock) .none kV11 dc11 pm11 an11 cd11 ct11), sl11⟩)
    (c11 : PySem.W.codeIn K cd11 "_law_stock" = true) (k11 : PySem.W.keepIn K (.ref f_l_stock) = true)
    (a12 : PySem.W.nsIn K mainGlobals "_law_dig" = some (some (.ref f_l_dig)))
    (l12 : K.lookup f_l_dig = some ⟨oc12, od12, .func (PySem.W.fnOf "_law_dig" "_law_dig" (defArgs s_l_dig) (defBody s_l_dig) (defScope s_l_dig) .none kV12 dc12 pm12 an12 cd12 ct12), sl12⟩)
    (c12 : PySem.W.codeIn K cd12 "_law_dig" = true) (k12 : PySem.W.keepIn K (.ref f_l_dig) = true)
    (a13 : PySem.W.nsIn K mainGlobals "_law_history" = some (some (.ref f_l_history)))
    (l13 : K.lookup f_l_history = some ⟨oc13, od13, .func (PySem.W.fnOf "_law_history" "_law_history" (defArgs s_l_history) (defBody s_l_history) (defScope s_l_history) .none kV13 dc13 pm13 an13 cd13 ct13), sl13⟩)
    (c13 : PySem.W.codeIn K cd13 "_law_history" = true) (k13 : PySem.W.keepIn K (.ref f_l_history) = true)
    (a14 : PySem.W.nsIn K mainGlobals "law" = some (some (.ref f_law)))
    (l14 : K.lookup f_law = some ⟨oc14, od14, .func (PySem.W.fnOf "law" "law" (defArgs s_law) (defBody s_law) (defScope s_law) .none kV14 dc14 pm14 an14 cd14 ct14), sl14⟩)
    (c14 : PySem.W.codeIn K cd14 "law" = true) (k14 : PySem.W.keepIn K (.ref f_law) = true)
    (co_LETTERS : PySem.W.nsIn K mainGlobals "LETTERS" = some (some (.str "abcdefghijklmnopqrstuvwxyz" t_LETTERS)))
    (co_MAX_LETTERS : PySem.W.nsIn K mainGlobals "MAX_LETTERS" = some (some (.int 8 t_MAX_LETTERS)))
    (co_MAX_MEMBERS : PySem.W.nsIn K mainGlobals "MAX_MEMBERS" = some (some (.int 12 t_MAX_MEMBERS)))
    (z_all : PySem.W.nsIn K mainGlobals "all" = some none)
    (z_enumerate : PySem.W.nsIn K mainGlobals "enumerate" = some none)
    (z_int : PySem.W.nsIn K mainGlobals "int" = some none)
    (z_isinstance : PySem.W.nsIn K mainGlobals "isinstance" = some none)
    (z_len : PySem.W.nsIn K mainGlobals "len" = some none)
    (z_list : PySem.W.nsIn K mainGlobals "list" = some none)
    (z_max : PySem.W.nsIn K mainGlobals "max" = some none)
    (z_min : PySem.W.nsIn K mainGlobals "min" = some none)
    (z_range : PySem.W.nsIn K mainGlobals "range" = some none)
    (z_sorted : PySem.W.nsIn K mainGlobals "sorted" = some none)
    (z_str : PySem.W.nsIn K mainGlobals "str" = some none)
    (z_sum : PySem.W.nsIn K mainGlobals "sum" = some none)
    (z_zip : PySem.W.nsIn K mainGlobals "zip" = some none) :
    ∃ fd : FuncData, (∀ (s : Shared) (v : Value), BindsTo s fd ⟨[v], []⟩ [("_law_script", v)]) ∧ ∀ base : Heap, K.In base → base.Ns mainGlobals mg → FnG l.prog w K mg base 7 fa fd ["_law_script"] (spLaw K) := by
  have e := hfa.symm.trans (PySem.W.mg_of X G a14)
  cases e
  let T : Txt K mg := {
    f_is_name := f_is_name
    fd_is_name := _
    F_is_name := fun_mk (st := s_is_name) l1 c1 k1
    b_is_name := ((fun_mk (st := s_is_name) l1 c1 k1).binds (ps := ["value"]) fun _ _ _ _ _ _ us hl => match us, hl with | [_], _ => rfl)
    g_is_name := PySem.W.mg_of X G a1
    f_is_members := f_is_members
    fd_is_members := _
    F_is_members := fun_mk (st := s_is_members) l2 c2 k2
    b_is_members := ((fun_mk (st := s_is_members) l2 c2 k2).binds (ps := ["value"]) fun _ _ _ _ _ _ us hl => match us, hl with | [_], _ => rfl)
    g_is_members := PySem.W.mg_of X G a2
    f_need_members := f_need_members
    fd_need_members := _
    F_need_members := fun_mk (st := s_need_members) l3 c3 k3
    b_need_members := ((fun_mk (st := s_need_members) l3 c3 k3).binds (ps := ["members"]) fun _ _ _ _ _ _ us hl => match us, hl with | [_], _ => rfl)
    g_need_members := PySem.W.mg_of X G a3
    f_is_member := f_is_member
    fd_is_member := _
    F_is_member := fun_mk (st := s_is_member) l4 c4 k4
    b_is_member := ((fun_mk (st := s_is_member) l4 c4 k4).binds (ps := ["members", "value"]) fun _ _ _ _ _ _ us hl => match us, hl with | [_, _], _ => rfl)
    g_is_member := PySem.W.mg_of X G a4
    f_need_member := f_need_member
    fd_need_member := _
    F_need_member := fun_mk (st := s_need_member) l5 c5 k5
    b_need_member := ((fun_mk (st := s_need_member) l5 c5 k5).binds (ps := ["members", "value"]) fun _ _ _ _ _ _ us hl => match us, hl with | [_, _], _ => rfl)
    g_need_member := PySem.W.mg_of X G a5
    f_is_history := f_is_history
    fd_is_history := _
    F_is_history := fun_mk (st := s_is_history) l6 c6 k6
    b_is_history := ((fun_mk (st := s_is_history) l6 c6 k6).binds (ps := ["members", "value"]) fun _ _ _ _ _ _ us hl => match us, hl with | [_, _], _ => rfl)
    g_is_history := PySem.W.mg_of X G a6
    f_need_history := f_need_history
    fd_need_history := _
    F_need_history := fun_mk (st := s_need_history) l7 c7 k7
    b_need_history := ((fun_mk (st := s_need_history) l7 c7 k7).binds (ps := ["members", "history"]) fun _ _ _ _ _ _ us hl => match us, hl with | [_, _], _ => rfl)
    g_need_history := PySem.W.mg_of X G a7
    f_lists_of := f_lists_of
    fd_lists_of := _
    F_lists_of := fun_mk (st := s_lists_of) l8 c8 k8
    b_lists_of := ((fun_mk (st := s_lists_of) l8 c8 k8).binds (ps := ["members", "history"]) fun _ _ _ _ _ _ us hl => match us, hl with | [_, _], _ => rfl)
    g_lists_of := PySem.W.mg_of X G a8
    f_handovers_of := f_handovers_of
    fd_handovers_of := _
    F_handovers_of := fun_mk (st := s_handovers_of) l9 c9 k9
    b_handovers_of := ((fun_mk (st := s_handovers_of) l9 c9 k9).binds (ps := ["members", "history"]) fun _ _ _ _ _ _ us hl => match us, hl with | [_, _], _ => rfl)
    g_handovers_of := PySem.W.mg_of X G a9
    f_turns_of := f_turns_of
    fd_turns_of := _
    F_turns_of := fun_mk (st := s_turns_of) l10 c10 k10
    b_turns_of := ((fun_mk (st := s_turns_of) l10 c10 k10).binds (ps := ["members", "history", "member"]) fun _ _ _ _ _ _ us hl => match us, hl with | [_, _, _], _ => rfl)
    g_turns_of := PySem.W.mg_of X G a10
    f_l_stock := f_l_stock
    fd_l_stock := _
    F_l_stock := fun_mk (st := s_l_stock) l11 c11 k11
    b_l_stock := ((fun_mk (st := s_l_stock) l11 c11 k11).binds (ps := ["_law_script", "_law_k"]) fun _ _ _ _ _ _ us hl => match us, hl with | [_, _], _ => rfl)
    g_l_stock := PySem.W.mg_of X G a11
    f_l_dig := f_l_dig
    fd_l_dig := _
    F_l_dig := fun_mk (st := s_l_dig) l12 c12 k12
    b_l_dig := ((fun_mk (st := s_l_dig) l12 c12 k12).binds (ps := ["_law_stock_here", "_law_size"]) fun _ _ _ _ _ _ us hl => match us, hl with | [_, _], _ => rfl)
    g_l_dig := PySem.W.mg_of X G a12
    f_l_history := f_l_history
    fd_l_history := _
    F_l_history := fun_mk (st := s_l_history) l13 c13 k13
    b_l_history := ((fun_mk (st := s_l_history) l13 c13 k13).binds (ps := ["_law_stock_here", "_law_members", "_law_most"]) fun _ _ _ _ _ _ us hl => match us, hl with | [_, _, _], _ => rfl)
    g_l_history := PySem.W.mg_of X G a13
    f_law := fa
    fd_law := _
    F_law := fun_mk (st := s_law) l14 c14 k14
    b_law := ((fun_mk (st := s_law) l14 c14 k14).binds (ps := ["_law_script"]) fun _ _ _ _ _ _ us hl => match us, hl with | [_], _ => rfl)
    g_law := PySem.W.mg_of X G a14
    t_LETTERS := t_LETTERS
    g_LETTERS := PySem.W.mg_of X G co_LETTERS
    t_MAX_LETTERS := t_MAX_LETTERS
    g_MAX_LETTERS := PySem.W.mg_of X G co_MAX_LETTERS
    t_MAX_MEMBERS := t_MAX_MEMBERS
    g_MAX_MEMBERS := PySem.W.mg_of X G co_MAX_MEMBERS
    z_all := PySem.W.mg_none_of X G z_all
    z_enumerate := PySem.W.mg_none_of X G z_enumerate
    z_int := PySem.W.mg_none_of X G z_int
    z_isinstance := PySem.W.mg_none_of X G z_isinstance
    z_len := PySem.W.mg_none_of X G z_len
    z_list := PySem.W.mg_none_of X G z_list
    z_max := PySem.W.mg_none_of X G z_max
    z_min := PySem.W.mg_none_of X G z_min
    z_range := PySem.W.mg_none_of X G z_range
    z_sorted := PySem.W.mg_none_of X G z_sorted
    z_str := PySem.W.mg_none_of X G z_str
    z_sum := PySem.W.mg_none_of X G z_sum
    z_zip := PySem.W.mg_none_of X G z_zip }
  exact ⟨T.fd_law, fun s v => .of_eq rfl, fun base hb hn => fin_law T⟩
end K06
open PySem PySem.W PyProof.Rows
set_option maxHeartbeats 0 in
theorem PySem.Challenge.cw_gotfrom_k06_whole_large_histories_holds : PySem.Challenge.rw_gotfrom_k06_whole_large_histories.Holds := by
  w_on; o_law; k_head; (case hw => w_witness2)
  k_fill
  refine GF.walk_ofG (l := PySem.Challenge.rw_gotfrom_k06_whole_large_histories) (n := 63) (k := 7) (x := "_law_script") (sp := PD.spLaw) rfl (by decide) rfl ⟨rfl, by decide, by decide⟩ (fun w h Y => PySem.W.kIn_of Y) ?F (fun _ _ a ns hl hS => ⟨a, ns, rfl, hS, hl, fun _ => rfl⟩)
  case F =>
    intro w mg fa h KX G hmg
    refine' K06.all_mk KX G hmg ?a1 ?l1 ?c1 ?k1 ?a2 ?l2 ?c2 ?k2 ?a3 ?l3 ?c3 ?k3 ?a4 ?l4 ?c4 ?k4 ?a5 ?l5 ?c5 ?k5 ?a6 ?l6 ?c6 ?k6 ?a7 ?l7 ?c7 ?k7 ?a8 ?l8 ?c8 ?k8 ?a9 ?l9 ?c9 ?k9 ?a10 ?l10 ?c10 ?k10 ?a11 ?l11 ?c11 ?k11 ?a12 ?l12 ?c12 ?k12 ?a13 ?l13 ?c13 ?k13 ?a14 ?l14 ?c14 ?k14 ?co_LETTERS ?co_MAX_LETTERS ?co_MAX_MEMBERS ?z_all ?z_enumerate ?z_int ?z_isinstance ?z_len ?z_list ?z_max ?z_min ?z_range ?z_sorted ?z_str ?z_sum ?z_zip
    (case a1 => k_is)
    (case l1 => k_is)
    (case c1 => k_is)
    (case k1 => k_is)
    (case a2 => k_is)
    (case l2 => k_is)
    (case c2 => k_is)
    (case k2 => k_is)
    (case a3 => k_is)
    (case l3 => k_is)
    (case c3 => k_is)
    (case k3 => k_is)
    (case a4 => k_is)
    (case l4 => k_is)
    (case c4 => k_is)
    (case k4 => k_is)
    (case a5 => k_is)
    (case l5 => k_is)
    (case c5 => k_is)
    (case k5 => k_is)
    (case a6 => k_is)
    (case l6 => k_is)
    (case c6 => k_is)
    (case k6 => k_is)
    (case a7 => k_is)
    (case l7 => k_is)
    (case c7 => k_is)
    (case k7 => k_is)
    (case a8 => k_is)
    (case l8 => k_is)
    (case c8 => k_is)
    (case k8 => k_is)
    (case a9 => k_is)
    (case l9 => k_is)
    (case c9 => k_is)
    (case k9 => k_is)
    (case a10 => k_is)
    (case l10 => k_is)
    (case c10 => k_is)
    (case k10 => k_is)
    (case a11 => k_is)
    (case l11 => k_is)
    (case c11 => k_is)
    (case k11 => k_is)
    (case a12 => k_is)
    (case l12 => k_is)
    (case c12 => k_is)
    (case k12 => k_is)
    (case a13 => k_is)
    (case l13 => k_is)
    (case c13 => k_is)
    (case k13 => k_is)
    (case a14 => k_is)
    (case l14 => k_is)
    (case c14 => k_is)
    (case k14 => k_is)
    (case co_LETTERS => k_is)
    (case co_MAX_LETTERS => k_is)
    (case co_MAX_MEMBERS => k_is)
    (case z_all => k_is)
    (case z_enumerate => k_is)
    (case z_int => k_is)
    (case z_isinstance => k_is)
    (case z_len => k_is)
    (case z_list => k_is)
    (case z_max => k_is)
    (case z_min => k_is)
    (case z_range => k_is)
    (case z_sorted => k_is)
    (case z_str => k_is)
    (case z_sum => k_is)
    (case z_zip => k_is)
#print axioms PySem.Challenge.cw_gotfrom_k06_whole_large_histories_holds
