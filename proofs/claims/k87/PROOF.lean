import PyProof.Rows.All
import Wide.All
import OpenK.AllK
import Wide.FinOn
import HandS.ForMost
import HandS.Wide
import HandS.IsInst
import HandS.Zip
import HandS.TupSets
import HandS.Defaults
import HandS.Deep
import HandS.Flow
import HandS.SortInts
import KE.SortData
import KE.DataMinMax
import PyProof.ReprRoads
import HandS.TupAny
import HandS.Conv
import HandS.Style
import HandS.WideBits
import PyProof.Rows.SeqMore
import KE.GoesMore
import KE.KeyNested
import HandS.SetFor
import HandS.Strs
import HandS.TupMul
import KE.KEqSeq
import HandS.DictComp
import KE.OsSort
import HandS.Base
import HandS.Call
import HandS.Ends
import HandS.More
import HandS.Words
import HandS.Codes
import HandS.Head0
import HandS.Head1
import HandS.Head2
import HandS.HeadEnd
import HandS.HeadHook1
import HandS.HeadHook2
import HandS.EndBits
import HandS.WordsExc
import PySem.Challenge.RW_drawnwebs_k87_first_forms_and_fewest_wat
set_option Elab.async false
set_option linter.all false
set_option maxRecDepth 100000
set_option maxHeartbeats 1000000
/-! A calculus of plain data over the hand layer: slots hold data, lists that are owned, objects. -/
namespace DC
open PySem PySem.Spec PyProof.Rows L2

/-- a heap less some addresses -/
def less (H : Hp) (O : List Addr) : Hp := fun b => if b ∈ O then none else H b
theorem less_in {H : Hp} {O : List Addr} {b : Addr} (h : b ∈ O) : less H O b = none := if_pos h
theorem less_out {H : Hp} {O : List Addr} {b : Addr} (h : b ∉ O) : less H O b = H b := if_neg h
theorem less_some {H : Hp} {O : List Addr} {b : Addr} {o : HO} (h : less H O b = some o) : b ∉ O ∧ H b = some o := by
  by_cases hb : b ∈ O
  · rw [less_in hb] at h; cases h
  · rw [less_out hb] at h; exact ⟨hb, h⟩
theorem less_sub {H : Hp} {O : List Addr} : Same (less H O) H := fun _ _ h => (less_some h).2
theorem less_mono {H H' : Hp} {O : List Addr} (s : Same H H') : Same (less H O) (less H' O) := fun b o h => by
  obtain ⟨h1, h2⟩ := less_some h
  rw [less_out h1]; exact s b o h2
theorem less_anti {H : Hp} {O O' : List Addr} (s : ∀ a ∈ O', a ∈ O) : Same (less H O) (less H O') := fun b o h => by
  obtain ⟨h1, h2⟩ := less_some h
  rw [less_out fun z => h1 (s b z)]; exact h2
theorem less_congr {H : Hp} {O O' : List Addr} (s : ∀ a, a ∈ O ↔ a ∈ O') : less H O = less H O' := by
  funext b
  unfold less
  by_cases hb : b ∈ O
  · rw [if_pos hb, if_pos ((s b).mp hb)]
  · rw [if_neg hb, if_neg fun z => hb ((s b).mpr z)]
theorem less_upd {H : Hp} {O : List Addr} {a : Addr} {o : HO} (h : a ∈ O) : less (upd H a o) O = less H O := by
  funext b
  unfold less
  by_cases hb : b ∈ O
  · rw [if_pos hb, if_pos hb]
  · rw [if_neg hb, if_neg hb, upd_ne fun z => hb (by rw [z]; exact h)]
theorem less_nil {H : Hp} : less H [] = H := by
  funext b
  exact if_neg (by simp)
/-- all of H is kept but what is at L -/
theorem less_kept {H H' : Hp} {O : List Addr} (k : ∀ b o, H b = some o → b ∉ O → H' b = some o) : Same (less H O) (less H' O) := fun b o h => by
  obtain ⟨h1, h2⟩ := less_some h
  rw [less_out h1]; exact k b o h2 h1

theorem rd_mono {H H' : Hp} {a : Addr} {u : HO} (e : Same H H') : Rd H a u → Rd H' a u := fun h => by
  rcases h with h | ⟨o, h⟩
  · exact .inl (e a _ h)
  · exact .inr ⟨o, e a _ h⟩
theorem sqt_mono {K : PySem.W.Frag} {H H' : Hp} {a : Addr} {xs : List V} (e : Same H H') : SqT K H a xs → SqT K H' a xs := fun h => h.imp (rd_mono e) id
theorem sql_mono {K : PySem.W.Frag} {H H' : Hp} {a : Addr} {xs : List V} (e : Same H H') : SqL K H a xs → SqL K H' a xs := fun h => h.imp (rd_mono e) id

mutual
theorem dp_mono {K : PySem.W.Frag} {H H' : Hp} (e : Same H H') : ∀ (d : PyData) (v : V), Dp K H v d → Dp K H' v d
  | .none, _, h => by cases h; exact .non
  | .bool _, _, h => by cases h; exact .bl _
  | .int _, _, h => by cases h; exact .int _
  | .str _, _, h => by cases h; exact .str _
  | .list ds, _, h => by
    cases h with
    | lst s a => exact .lst (sql_mono e s) (dpAll_mono e ds _ a)
  | .tuple ds, _, h => by
    cases h with
    | tup s a => exact .tup (sqt_mono e s) (dpAll_mono e ds _ a)
  | .dict _, _, h => by cases h
theorem dpAll_mono {K : PySem.W.Frag} {H H' : Hp} (e : Same H H') : ∀ (ds : List PyData) (vs : List V), DpAll K H vs ds → DpAll K H' vs ds
  | [], _, h => by cases h; exact .nil
  | d :: ds, _, h => by
    cases h with
    | cons a b => exact .cons (dp_mono e d _ a) (dpAll_mono e ds _ b)
end
end DC
namespace L2
open PySem PySem.Spec PyProof.Rows
theorem Dp.up {K : PySem.W.Frag} {H H' : Hp} {v : V} {d : PyData} (h : Dp K H v d) (e : Same H H') : Dp K H' v d := DC.dp_mono e d v h
theorem DpAll.up {K : PySem.W.Frag} {H H' : Hp} {vs : List V} {ds : List PyData} (h : DpAll K H vs ds) (e : Same H H') : DpAll K H' vs ds := DC.dpAll_mono e ds vs h
theorem DpAll.len {K : PySem.W.Frag} {H : Hp} : ∀ {vs : List V} {ds : List PyData}, DpAll K H vs ds → vs.length = ds.length
  | [], [], _ => rfl
  | _ :: _, _ :: _, .cons _ b => congrArg Nat.succ b.len
theorem DpAll.at_ {K : PySem.W.Frag} {H : Hp} : ∀ {vs : List V} {ds : List PyData} {i : Nat} {d : PyData}, DpAll K H vs ds → ds[i]? = some d → ∃ v, vs[i]? = some v ∧ Dp K H v d
  | _, _, _, _, .nil, e => by simp at e
  | _, _, 0, _, .cons a _, e => by
    simp at e; subst e; exact ⟨_, rfl, a⟩
  | _, _, i + 1, _, .cons _ b, e => by
    obtain ⟨v, h1, h2⟩ := DpAll.at_ (i := i) b (by simpa using e)
    exact ⟨v, by simpa using h1, h2⟩
theorem DpAll.atV {K : PySem.W.Frag} {H : Hp} : ∀ {vs : List V} {ds : List PyData} {i : Nat} {v : V}, DpAll K H vs ds → vs[i]? = some v → ∃ d, ds[i]? = some d ∧ Dp K H v d
  | _, _, _, _, .nil, e => by simp at e
  | _, _, 0, _, .cons a _, e => by
    simp at e; subst e; exact ⟨_, rfl, a⟩
  | _, _, i + 1, _, .cons _ b, e => by
    obtain ⟨v, h1, h2⟩ := DpAll.atV (i := i) b (by simpa using e)
    exact ⟨v, by simpa using h1, h2⟩
theorem DpAll.app {K : PySem.W.Frag} {H : Hp} : ∀ {vs ws : List V} {ds es : List PyData}, DpAll K H vs ds → DpAll K H ws es → DpAll K H (vs ++ ws) (ds ++ es)
  | _, _, _, _, .nil, h => h
  | _, _, _, _, .cons a b, h => .cons a (b.app h)
theorem DpAll.take {K : PySem.W.Frag} {H : Hp} : ∀ {vs : List V} {ds : List PyData} (n : Nat), DpAll K H vs ds → DpAll K H (vs.take n) (ds.take n)
  | _, _, 0, _ => .nil
  | _, _, _ + 1, .nil => .nil
  | _, _, n + 1, .cons a b => .cons a (b.take n)
theorem DpAll.drop {K : PySem.W.Frag} {H : Hp} : ∀ {vs : List V} {ds : List PyData} (n : Nat), DpAll K H vs ds → DpAll K H (vs.drop n) (ds.drop n)
  | _, _, 0, h => h
  | _, _, _ + 1, .nil => .nil
  | _, _, n + 1, .cons _ b => b.drop n
theorem DpAll.set {K : PySem.W.Frag} {H : Hp} {x : V} {d : PyData} (hx : Dp K H x d) : ∀ {vs : List V} {ds : List PyData} (n : Nat), DpAll K H vs ds → DpAll K H (vs.set n x) (ds.set n d)
  | _, _, _, .nil => .nil
  | _, _, 0, .cons _ b => .cons hx b
  | _, _, n + 1, .cons a b => .cons a (b.set hx n)
theorem DpAll.erase {K : PySem.W.Frag} {H : Hp} : ∀ {vs : List V} {ds : List PyData} (n : Nat), DpAll K H vs ds → DpAll K H (vs.eraseIdx n) (ds.eraseIdx n)
  | _, _, _, .nil => .nil
  | _, _, 0, .cons _ b => b
  | _, _, n + 1, .cons a b => .cons a (b.erase n)
theorem DpAll.dropLast {K : PySem.W.Frag} {H : Hp} {vs : List V} {ds : List PyData} (h : DpAll K H vs ds) : DpAll K H vs.dropLast ds.dropLast := by
  rw [List.dropLast_eq_take, List.dropLast_eq_take, h.len]
  exact h.take _
theorem DpAll.rev {K : PySem.W.Frag} {H : Hp} : ∀ {vs : List V} {ds : List PyData}, DpAll K H vs ds → DpAll K H vs.reverse ds.reverse
  | _, _, .nil => .nil
  | _, _, .cons a b => by
    rw [List.reverse_cons, List.reverse_cons]
    exact b.rev.app (.cons a .nil)
theorem DpAll.ints {K : PySem.W.Frag} {H : Hp} : ∀ (ns : List Int), DpAll K H (ns.map V.int) (ns.map PyData.int)
  | [] => .nil
  | n :: ns => .cons (.int n) (DpAll.ints ns)
theorem DpAll.intsV {K : PySem.W.Frag} {H : Hp} : ∀ {ns : List Int} {vs : List V}, DpAll K H vs (ns.map PyData.int) → vs = ns.map V.int
  | [], [], _ => rfl
  | n :: ns, _ :: _, .cons (.int _) b => by rw [List.map_cons, DpAll.intsV b]
theorem DpAll.blsV {K : PySem.W.Frag} {H : Hp} : ∀ {ns : List Bool} {vs : List V}, DpAll K H vs (ns.map PyData.bool) → vs = ns.map V.bl
  | [], [], _ => rfl
  | n :: ns, _ :: _, .cons (.bl _) b => by rw [List.map_cons, DpAll.blsV b]

end L2
namespace DC
open PySem PySem.Spec PyProof.Rows L2
/-! ### slots -/
inductive Sl where
  /-- nothing is known -/
  | un
  /-- data that stays -/
  | fz (d : PyData)
  /-- a list of its own -/
  | ow (ds : List PyData)
  /-- a list that is handed in to be changed -/
  | bw (a : Addr) (ds : List PyData)
  /-- a dict of its own -/
  | od (kvs : List (Key × PyData))
  /-- an instance that stays -/
  | ob (C : Addr) (fs : List (Str × PyData))
def Owned : Sl → Prop
  | .ow _ => True
  | .bw _ _ => True
  | .od _ => True
  | _ => False
/-- an instance whose fields are data -/
def ObD (K : PySem.W.Frag) (G : Hp) (v : V) (C : Addr) (fs : List (Str × PyData)) : Prop :=
  ∃ p dx vs, v = .ref p ∧ G p = some (.ins C dx vs) ∧ (∀ f d, fs.lookup f = some d → ∃ x, vs.lookup f = some x ∧ Dp K G x d) ∧ ∀ f, fs.lookup f = none → vs.lookup f = none
/-- an instance told as data, for a field that holds it -/
def encOb (C : Addr) (fs : List (Str × PyData)) : PyData := .dict ((.int ((C : Nat) : Int), .none) :: fs.map fun p => (.str p.1, p.2))
theorem encOb_inj {C C' : Addr} {fs fs' : List (Str × PyData)} (h : encOb C fs = encOb C' fs') : C = C' ∧ fs = fs' := by
  unfold encOb at h
  injection h with h
  injection h with h1 h2
  refine ⟨?_, ?_⟩
  · injection h1 with h1
    injection h1 with h1
    exact Int.ofNat.inj h1
  · have key : ∀ (l l' : List (Str × PyData)), (l.map fun p => (PyData.str p.1, p.2)) = (l'.map fun p => (PyData.str p.1, p.2)) → l = l' := by
      intro l
      induction l with
      | nil =>
        intro l' e
        cases l' with
        | nil => rfl
        | cons b r => cases e
      | cons a r ih =>
        intro l' e
        cases l' with
        | nil => cases e
        | cons b r' =>
          rw [List.map_cons, List.map_cons] at e
          injection e with e1 e2
          injection e1 with e3 e4
          injection e3 with e3
          rw [ih r' e2]
          obtain ⟨a1, a2⟩ := a
          obtain ⟨b1, b2⟩ := b
          simp only at e3 e4
          rw [e3, e4]
    exact key _ _ h2
def Fv (K : PySem.W.Frag) (G : Hp) (x : V) (d : PyData) : Prop := Dp K G x d ∨ ∃ C fs, d = encOb C fs ∧ ObD K G x C fs
theorem ObD.up {K : PySem.W.Frag} {G G' : Hp} {v : V} {C : Addr} {fs : List (Str × PyData)} (h : ObD K G v C fs) (e : Same G G') : ObD K G' v C fs := by
  obtain ⟨p, dx, vs, h1, h2, h3, h4⟩ := h
  exact ⟨p, dx, vs, h1, e _ _ h2, fun f d z => let ⟨x, a, b⟩ := h3 f d z; ⟨x, a, b.up e⟩, h4⟩
theorem Fv.up {K : PySem.W.Frag} {G G' : Hp} {x : V} {d : PyData} (h : Fv K G x d) (e : Same G G') : Fv K G' x d := h.imp (fun z => z.up e) fun ⟨C, fs, z, w⟩ => ⟨C, fs, z, w.up e⟩
def ObAt (K : PySem.W.Frag) (G : Hp) (v : V) (C : Addr) (fs : List (Str × PyData)) : Prop :=
  ∃ p dx vs, v = .ref p ∧ G p = some (.ins C dx vs) ∧ (∀ f d, fs.lookup f = some d → ∃ x, vs.lookup f = some x ∧ Fv K G x d) ∧ ∀ f, fs.lookup f = none → vs.lookup f = none
theorem ObD.at_ {K : PySem.W.Frag} {G : Hp} {v : V} {C : Addr} {fs : List (Str × PyData)} (h : ObD K G v C fs) : ObAt K G v C fs := by
  obtain ⟨p, dx, vs, h1, h2, h3, h4⟩ := h
  exact ⟨p, dx, vs, h1, h2, fun f d z => let ⟨x, a, b⟩ := h3 f d z; ⟨x, a, .inl b⟩, h4⟩
theorem ObAt.flat {K : PySem.W.Frag} {G : Hp} {v : V} {C : Addr} {fs : List (Str × PyData)} (h : ObAt K G v C fs) (n : ∀ f kvs, fs.lookup f ≠ some (.dict kvs)) : ObD K G v C fs := by
  obtain ⟨p, dx, vs, h1, h2, h3, h4⟩ := h
  refine ⟨p, dx, vs, h1, h2, fun f d z => ?_, h4⟩
  obtain ⟨x, a, b⟩ := h3 f d z
  rcases b with b | ⟨C', fs', rfl, _⟩
  · exact ⟨x, a, b⟩
  · exact absurd z (n _ _)
theorem ObAt.up {K : PySem.W.Frag} {G G' : Hp} {v : V} {C : Addr} {fs : List (Str × PyData)} (h : ObAt K G v C fs) (e : Same G G') : ObAt K G' v C fs := by
  obtain ⟨p, dx, vs, h1, h2, h3, h4⟩ := h
  exact ⟨p, dx, vs, h1, e _ _ h2, fun f d z => let ⟨x, a, b⟩ := h3 f d z; ⟨x, a, b.up e⟩, h4⟩
inductive KvAll (K : PySem.W.Frag) (G : Hp) : List (Key × V) → List (Key × PyData) → Prop
  | nil : KvAll K G [] []
  | cons {k : Key} {v : V} {d : PyData} {vs : List (Key × V)} {ds : List (Key × PyData)} : Dp K G v d → KvAll K G vs ds → KvAll K G ((k, v) :: vs) ((k, d) :: ds)
theorem KvAll.up {K : PySem.W.Frag} {G G' : Hp} (e : Same G G') : ∀ {vs : List (Key × V)} {ds : List (Key × PyData)}, KvAll K G vs ds → KvAll K G' vs ds
  | _, _, .nil => .nil
  | _, _, .cons a b => .cons (a.up e) (KvAll.up e b)
theorem KvAll.len {K : PySem.W.Frag} {G : Hp} : ∀ {vs : List (Key × V)} {ds : List (Key × PyData)}, KvAll K G vs ds → vs.length = ds.length
  | _, _, .nil => rfl
  | _, _, .cons _ b => congrArg Nat.succ b.len

/-- M: all addresses that are owned, by this def's slots or elsewhere -/
def SlOk (K : PySem.W.Frag) (M L : List Addr) (H : Hp) (ov : Option V) : Sl → Prop
  | .un => True
  | .fz d => ∃ v, ov = some v ∧ Dp K (less H M) v d
  | .ow ds => ∃ a vs, ov = some (.ref a) ∧ a ∈ L ∧ H a = some (.lst vs) ∧ DpAll K (less H M) vs ds
  | .bw a ds => ∃ vs, ov = some (.ref a) ∧ a ∈ L ∧ H a = some (.lst vs) ∧ DpAll K (less H M) vs ds
  | .od kvs => ∃ a vs, ov = some (.ref a) ∧ a ∈ L ∧ H a = some (.dK vs) ∧ KvAll K (less H M) vs kvs
  | .ob C fs => ∃ v, ov = some v ∧ ObAt K (less H M) v C fs

/-- the slots σ hold ρ; O: addresses owned elsewhere, L: by slots of ρ -/
structure En (K : PySem.W.Frag) (O L : List Addr) (H : Hp) (σ : L2.St) (ρ : List Sl) : Prop where
  len : σ.length = ρ.length
  at_ : ∀ (i : Nat) (s : Sl), ρ[i]? = some s → SlOk K (O ++ L) L H (σ[i]?.join) s
  inj : ∀ (i j : Nat) (s t : Sl) (a : Addr), ρ[i]? = some s → ρ[j]? = some t → Owned s → Owned t → σ[i]?.join = some (.ref a) → σ[j]?.join = some (.ref a) → i = j
  tr : ∀ a ∈ O ++ L, H a ≠ none
  dis : ∀ a ∈ L, a ∉ O

/-- from (L, H) to (L', H'): what is not at L stays; L' has, besides, only new ones -/
structure Go (L : List Addr) (H : Hp) (L' : List Addr) (H' : Hp) : Prop where
  keep : ∀ b o, H b = some o → b ∉ L → H' b = some o
  gr : ∀ a ∈ L', a ∈ L ∨ H a = none
  st : ∀ b, H b ≠ none → H' b ≠ none
theorem Go.refl {L : List Addr} {H : Hp} : Go L H L H := ⟨fun _ _ h _ => h, fun _ h => .inl h, fun _ h => h⟩
theorem Go.same {L : List Addr} {H H' : Hp} (e : Same H H') : Go L H L H' := ⟨fun b o h _ => e b o h, fun _ h => .inl h, fun b h => by
  cases q : H b with
  | none => exact absurd q h
  | some o => rw [e b o q]; simp⟩
theorem Go.trans {L L1 L2 : List Addr} {H H1 H2 : Hp} (a : Go L H L1 H1) (b : Go L1 H1 L2 H2) : Go L H L2 H2 where
  keep := fun c o h hc => b.keep c o (a.keep c o h hc) fun z => by
    rcases a.gr c z with z | z
    · exact hc z
    · rw [h] at z; cases z
  gr := fun c hc => by
    rcases b.gr c hc with z | z
    · exact a.gr c z
    · cases q : H c with
      | none => exact .inr rfl
      | some o => exact absurd z (a.st c (by rw [q]; simp))
  st := fun c h => b.st c (a.st c h)
theorem Go.free {L L' : List Addr} {H H' : Hp} (g : Go L H L' H') {p : Addr} (h : H' p = none) : H p = none := by
  cases q : H p with
  | none => rfl
  | some o => exact absurd h (g.st p (by rw [q]; simp))
/-- what is not owned stays, and is not owned -/
theorem Go.less {O L L' : List Addr} {H H' : Hp} (g : Go L H L' H') : Same (less H (O ++ L)) (less H' (O ++ L')) := fun b o h => by
  obtain ⟨h1, h2⟩ := less_some h
  rw [List.mem_append] at h1
  have h3 : b ∉ L := fun z => h1 (.inr z)
  rw [less_out]
  · exact g.keep b o h2 h3
  · rw [List.mem_append]
    rintro (z | z)
    · exact h1 (.inl z)
    · rcases g.gr b z with z | z
      · exact h3 z
      · rw [h2] at z; cases z

theorem SlOk.grow {K : PySem.W.Frag} {M L : List Addr} {H H' : Hp} {ov : Option V} (e : Same H H') : ∀ {s : Sl}, SlOk K M L H ov s → SlOk K M L H' ov s
  | .un, _ => trivial
  | .fz _, ⟨v, h1, h2⟩ => ⟨v, h1, h2.up (less_mono e)⟩
  | .ow _, ⟨a, vs, h1, h2, h3, h4⟩ => ⟨a, vs, h1, h2, e _ _ h3, h4.up (less_mono e)⟩
  | .bw _ _, ⟨vs, h1, h2, h3, h4⟩ => ⟨vs, h1, h2, e _ _ h3, h4.up (less_mono e)⟩
  | .od _, ⟨a, vs, h1, h2, h3, h4⟩ => ⟨a, vs, h1, h2, e _ _ h3, h4.up (less_mono e)⟩
  | .ob _ _, ⟨v, h1, h2⟩ => ⟨v, h1, h2.up (less_mono e)⟩
/-- the same under another name for what is owned -/
theorem SlOk.frz {K : PySem.W.Frag} {M M' L : List Addr} {H : Hp} {ov : Option V} (e : Same (less H M) (less H M')) : ∀ {s : Sl}, SlOk K M L H ov s → SlOk K M' L H ov s
  | .un, _ => trivial
  | .fz _, ⟨v, h1, h2⟩ => ⟨v, h1, h2.up e⟩
  | .ow _, ⟨a, vs, h1, h2, h3, h4⟩ => ⟨a, vs, h1, h2, h3, h4.up e⟩
  | .bw _ _, ⟨vs, h1, h2, h3, h4⟩ => ⟨vs, h1, h2, h3, h4.up e⟩
  | .od _, ⟨a, vs, h1, h2, h3, h4⟩ => ⟨a, vs, h1, h2, h3, h4.up e⟩
  | .ob _ _, ⟨v, h1, h2⟩ => ⟨v, h1, h2.up e⟩
theorem SlOk.more {K : PySem.W.Frag} {M L L' : List Addr} {H : Hp} {ov : Option V} (e : ∀ a ∈ L, a ∈ L') : ∀ {s : Sl}, SlOk K M L H ov s → SlOk K M L' H ov s
  | .un, _ => trivial
  | .fz _, h => h
  | .ow _, ⟨a, vs, h1, h2, h3, h4⟩ => ⟨a, vs, h1, e _ h2, h3, h4⟩
  | .bw _ _, ⟨vs, h1, h2, h3, h4⟩ => ⟨vs, h1, e _ h2, h3, h4⟩
  | .od _, ⟨a, vs, h1, h2, h3, h4⟩ => ⟨a, vs, h1, e _ h2, h3, h4⟩
  | .ob _ _, h => h

section
variable {K : PySem.W.Frag} {O L L' : List Addr} {H H' : Hp} {σ : L2.St} {ρ : List Sl}
theorem En.grow (e : Same H H') (h : En K O L H σ ρ) : En K O L H' σ ρ :=
  ⟨h.len, fun i s z => (h.at_ i s z).grow e, h.inj, fun a z => by
    cases q : H a with
    | none => exact absurd q (h.tr a z)
    | some o => rw [e a o q]; simp, h.dis⟩
/-- a new object that is owned elsewhere -/
theorem En.push {p : Addr} (e : Same H H') (hp : H p = none) (hp' : H' p ≠ none) (h : En K O L H σ ρ) : En K (p :: O) L H' σ ρ := by
  have g : Same (less H (O ++ L)) (less H' (p :: O ++ L)) := fun b o q => by
    obtain ⟨h1, h2⟩ := less_some q
    rw [less_out]
    · exact e b o h2
    · intro z
      rcases List.mem_cons.mp (show b ∈ p :: (O ++ L) from z) with z | z
      · rw [z, hp] at h2; cases h2
      · exact h1 z
  refine ⟨h.len, fun i s z => ?_, h.inj, fun a z => ?_, fun a z => ?_⟩
  · have q := h.at_ i s z
    cases s with
    | un => exact trivial
    | fz d => obtain ⟨v, h1, h2⟩ := q; exact ⟨v, h1, h2.up g⟩
    | ow ds => obtain ⟨a, vs, h1, h2, h3, h4⟩ := q; exact ⟨a, vs, h1, h2, e _ _ h3, h4.up g⟩
    | bw a ds => obtain ⟨vs, h1, h2, h3, h4⟩ := q; exact ⟨vs, h1, h2, e _ _ h3, h4.up g⟩
    | od ds => obtain ⟨a, vs, h1, h2, h3, h4⟩ := q; exact ⟨a, vs, h1, h2, e _ _ h3, h4.up g⟩
    | ob C fs => obtain ⟨v, h1, h2⟩ := q; exact ⟨v, h1, h2.up g⟩
  · rcases List.mem_cons.mp (show a ∈ p :: (O ++ L) from z) with z | z
    · rw [z]; exact hp'
    · cases q : H a with
      | none => exact absurd q (h.tr a z)
      | some o => rw [e a o q]; simp
  · rw [List.mem_cons]
    rintro (w | w)
    · rw [w] at z
      exact h.tr p (List.mem_append_right _ z) hp
    · exact h.dis a z w
/-- what is owned elsewhere is let go -/
theorem En.drop {p : Addr} (h : En K (p :: O) L H σ ρ) : En K O L H σ ρ :=
  ⟨h.len, fun i s z => (h.at_ i s z).frz (less_anti fun a q => List.mem_cons_of_mem _ q), h.inj, fun a z => h.tr a (List.mem_cons_of_mem _ z), fun a z w => h.dis a z (List.mem_cons_of_mem _ w)⟩
theorem En.sub {O' : List Addr} (h : En K O L H σ ρ) (e : ∀ a ∈ O', a ∈ O) : En K O' L H σ ρ :=
  ⟨h.len, fun i s z => (h.at_ i s z).frz (less_anti fun a q => by
    rw [List.mem_append] at q ⊢
    exact q.imp (e a) id), h.inj, fun a z => h.tr a (by rw [List.mem_append] at z ⊢; exact z.imp (e a) id), fun a z w => h.dis a z (e a w)⟩
/-- a slot is set to something that is not owned -/
theorem En.setF {i : Nat} {v : V} {s : Sl} (h : En K O L H σ ρ) (n : ¬ Owned s) (ok : SlOk K (O ++ L) L H (some v) s) : En K O L H (σ.set i (some v)) (ρ.set i s) := by
  refine ⟨by rw [List.length_set, List.length_set]; exact h.len, fun j t z => ?_, fun j k t u a z1 z2 o1 o2 e1 e2 => ?_, h.tr, h.dis⟩
  · by_cases hj : j = i
    · subst hj
      by_cases hl : j < ρ.length
      · rw [List.getElem?_set_self hl] at z
        cases z
        rw [List.getElem?_set_self (by rw [h.len]; exact hl)]
        exact ok
      · rw [List.getElem?_eq_none (by rw [List.length_set]; omega)] at z
        cases z
    · rw [List.getElem?_set_ne (Ne.symm hj)] at z
      rw [List.getElem?_set_ne (Ne.symm hj)]
      exact h.at_ j t z
  · have nj : ∀ {j : Nat} {t : Sl}, (ρ.set i s)[j]? = some t → Owned t → j ≠ i := fun {j t} z o e => by
      subst e
      by_cases hl : j < ρ.length
      · rw [List.getElem?_set_self hl] at z
        cases z
        exact n o
      · rw [List.getElem?_eq_none (by rw [List.length_set]; omega)] at z
        cases z
    have hj := nj z1 o1
    have hk := nj z2 o2
    rw [List.getElem?_set_ne (Ne.symm hj)] at z1 e1
    rw [List.getElem?_set_ne (Ne.symm hk)] at z2 e2
    exact h.inj j k t u a z1 z2 o1 o2 e1 e2
/-- a slot takes over what was owned elsewhere -/
theorem En.setO {i : Nat} {p : Addr} {s : Sl} (h : En K (p :: O) L H σ ρ) (hp : p ∉ O) (ok : SlOk K (p :: O ++ L) (p :: L) H (some (.ref p)) s) : En K O (p :: L) H (σ.set i (some (.ref p))) (ρ.set i s) := by
  have cg : less H (p :: O ++ L) = less H (O ++ p :: L) := less_congr fun a => by
    simp only [List.cons_append, List.mem_cons, List.mem_append]
    constructor
    · rintro (z | z | z)
      · exact .inr (.inl z)
      · exact .inl z
      · exact .inr (.inr z)
    · rintro (z | z | z)
      · exact .inr (.inl z)
      · exact .inl z
      · exact .inr (.inr z)
  have pl : p ∉ L := fun z => h.dis p z (List.mem_cons_self)
  refine ⟨by rw [List.length_set, List.length_set]; exact h.len, fun j t z => ?_, fun j k t u a z1 z2 o1 o2 e1 e2 => ?_, fun a z => h.tr a ?_, fun a z w => ?_⟩
  · by_cases hj : j = i
    · subst hj
      by_cases hl : j < ρ.length
      · rw [List.getElem?_set_self hl] at z
        cases z
        rw [List.getElem?_set_self (by rw [h.len]; exact hl)]
        exact ok.frz fun b o q => by rw [← cg]; exact q
      · rw [List.getElem?_eq_none (by rw [List.length_set]; omega)] at z
        cases z
    · rw [List.getElem?_set_ne (Ne.symm hj)] at z
      rw [List.getElem?_set_ne (Ne.symm hj)]
      exact ((h.at_ j t z).more fun a q => List.mem_cons_of_mem _ q).frz fun b o q => by rw [← cg]; exact q
  · have own : ∀ {j : Nat} {t : Sl}, ρ[j]? = some t → Owned t → σ[j]?.join ≠ some (.ref p) := fun {j t} z o e => by
      have q := h.at_ j t z
      rw [e] at q
      cases t with
      | un => exact o
      | fz d => exact o
      | ow ds => obtain ⟨a, _, q1, q2, _⟩ := q; cases q1; exact pl q2
      | bw a ds => obtain ⟨_, q1, q2, _⟩ := q; cases q1; exact pl q2
      | od ds => obtain ⟨a, _, q1, q2, _⟩ := q; cases q1; exact pl q2
      | ob C fs => exact o
    have inl : ∀ {j : Nat} {t : Sl}, (ρ.set i s)[j]? = some t → j = i → i < ρ.length := fun {j t} z e => by
      subst e
      by_cases hl : j < ρ.length
      · exact hl
      · rw [List.getElem?_eq_none (by rw [List.length_set]; omega)] at z
        cases z
    by_cases hj : j = i <;> by_cases hk : k = i
    · rw [hj, hk]
    · have hl := inl z1 hj
      rw [hj, List.getElem?_set_self (by rw [h.len]; exact hl)] at e1
      cases e1
      rw [List.getElem?_set_ne (Ne.symm hk)] at z2 e2
      exact absurd e2 (own z2 o2)
    · have hl := inl z2 hk
      rw [hk, List.getElem?_set_self (by rw [h.len]; exact hl)] at e2
      cases e2
      rw [List.getElem?_set_ne (Ne.symm hj)] at z1 e1
      exact absurd e1 (own z1 o1)
    · rw [List.getElem?_set_ne (Ne.symm hj)] at z1 e1
      rw [List.getElem?_set_ne (Ne.symm hk)] at z2 e2
      exact h.inj j k t u a z1 z2 o1 o2 e1 e2
  · simp only [List.cons_append, List.mem_cons, List.mem_append] at z ⊢
    rcases z with z | z | z
    · exact .inr (.inl z)
    · exact .inl z
    · exact .inr (.inr z)
  · rcases List.mem_cons.mp z with z | z
    · subst z; exact hp w
    · exact h.dis a z (List.mem_cons_of_mem _ w)
/-- what a slot owns is changed -/
theorem En.mut {i : Nat} {a : Addr} {o : HO} {s s' : Sl} (h : En K O L H σ ρ) (hs : ρ[i]? = some s) (w : Owned s) (hv : σ[i]?.join = some (.ref a)) (ha : a ∈ L)
    (ok : SlOk K (O ++ L) L (upd H a o) (some (.ref a)) s') (w' : Owned s') : En K O L (upd H a o) σ (ρ.set i s') := by
  have hm : a ∈ O ++ L := List.mem_append_right _ ha
  have il : i < ρ.length := (List.getElem?_eq_some_iff.mp hs).1
  refine ⟨by rw [List.length_set]; exact h.len, fun j t z => ?_, fun j k t u b z1 z2 o1 o2 e1 e2 => ?_, fun b z => ?_, h.dis⟩
  · by_cases hj : j = i
    · subst hj
      rw [List.getElem?_set_self il] at z
      cases z
      rw [hv]
      exact ok
    · rw [List.getElem?_set_ne (Ne.symm hj)] at z
      have q := h.at_ j t z
      have ne : ∀ {b : Addr}, Owned t → σ[j]?.join = some (.ref b) → b ≠ a := fun {b} o e z' => by
        subst z'
        exact hj (h.inj j i t s b z hs o w e hv)
      unfold SlOk at q ⊢
      rw [less_upd hm]
      cases t with
      | un => exact trivial
      | fz d => exact q
      | ow ds => obtain ⟨b, vs, h1, h2, h3, h4⟩ := q; exact ⟨b, vs, h1, h2, by rw [upd_ne (ne trivial h1)]; exact h3, h4⟩
      | bw b ds => obtain ⟨vs, h1, h2, h3, h4⟩ := q; exact ⟨vs, h1, h2, by rw [upd_ne (ne trivial h1)]; exact h3, h4⟩
      | od ds => obtain ⟨b, vs, h1, h2, h3, h4⟩ := q; exact ⟨b, vs, h1, h2, by rw [upd_ne (ne trivial h1)]; exact h3, h4⟩
      | ob C fs => exact q
  · have back : ∀ {j : Nat} {t : Sl}, (ρ.set i s')[j]? = some t → Owned t → ∃ t', ρ[j]? = some t' ∧ Owned t' := fun {j t} z o => by
      by_cases hj : j = i
      · subst hj
        exact ⟨s, hs, w⟩
      · rw [List.getElem?_set_ne (Ne.symm hj)] at z
        exact ⟨t, z, o⟩
    obtain ⟨t1, y1, p1⟩ := back z1 o1
    obtain ⟨t2, y2, p2⟩ := back z2 o2
    exact h.inj j k t1 t2 b y1 y2 p1 p2 e1 e2
  · by_cases hb : b = a
    · subst hb; rw [upd_same]; simp
    · rw [upd_ne hb]; exact h.tr b z
/-- an owned list is let stay as it is -/
theorem En.freeze {i : Nat} {ds : List PyData} (h : En K O L H σ ρ) (hs : ρ[i]? = some (.ow ds)) :
    ∃ a L', σ[i]?.join = some (.ref a) ∧ En K O L' H σ (ρ.set i (.fz (.list ds))) ∧ (∀ b ∈ L', b ∈ L) ∧ Dp K (less H (O ++ L')) (.ref a) (.list ds) := by
  obtain ⟨a, vs, h1, h2, h3, h4⟩ := h.at_ i _ hs
  have il : i < ρ.length := (List.getElem?_eq_some_iff.mp hs).1
  refine ⟨a, L.filter (· ≠ a), h1, ?_, fun b hb => (List.mem_filter.mp hb).1, ?_⟩
  · have g : Same (less H (O ++ L)) (less H (O ++ L.filter (· ≠ a))) := less_anti fun b hb => by
      rw [List.mem_append] at hb ⊢
      exact hb.imp id fun q => (List.mem_filter.mp q).1
    have g2 : Dp K (less H (O ++ L.filter (· ≠ a))) (.ref a) (.list ds) := .lst (.of (by
      rw [less_out]
      · exact h3
      · rw [List.mem_append]
        rintro (z | z)
        · exact h.dis a h2 z
        · simpa using (List.mem_filter.mp z).2)) (h4.up g)
    refine ⟨by rw [List.length_set]; exact h.len, fun j t z => ?_, fun j k t u b z1 z2 o1 o2 e1 e2 => ?_, fun b z => h.tr b ?_, fun b z => h.dis b (List.mem_filter.mp z).1⟩
    · by_cases hj : j = i
      · subst hj
        rw [List.getElem?_set_self il] at z
        cases z
        exact ⟨_, h1, g2⟩
      · rw [List.getElem?_set_ne (Ne.symm hj)] at z
        have q := (h.at_ j t z).frz g
        have nm : ∀ {b : Addr}, Owned t → σ[j]?.join = some (.ref b) → b ∈ L → b ∈ L.filter (· ≠ a) := fun {b} o e m => List.mem_filter.mpr ⟨m, by
          have : b ≠ a := fun z' => by
            subst z'
            exact hj (h.inj j i t _ b z hs o trivial e h1)
          simpa using this⟩
        cases t with
        | un => exact trivial
        | fz d => exact q
        | ow es => obtain ⟨b, vs', k1, k2, k3, k4⟩ := q; exact ⟨b, vs', k1, nm trivial k1 k2, k3, k4⟩
        | bw b es => obtain ⟨vs', k1, k2, k3, k4⟩ := q; exact ⟨vs', k1, nm trivial k1 k2, k3, k4⟩
        | od es => obtain ⟨b, vs', k1, k2, k3, k4⟩ := q; exact ⟨b, vs', k1, nm trivial k1 k2, k3, k4⟩
        | ob C fs => exact q
    · have back : ∀ {j : Nat} {t : Sl}, (ρ.set i (.fz (.list ds)))[j]? = some t → Owned t → ρ[j]? = some t := fun {j t} z o => by
        by_cases hj : j = i
        · subst hj
          rw [List.getElem?_set_self il] at z
          cases z
          exact o.elim
        · rw [List.getElem?_set_ne (Ne.symm hj)] at z
          exact z
      exact h.inj j k t u b (back z1 o1) (back z2 o2) o1 o2 e1 e2
    · rw [List.mem_append] at z ⊢
      exact z.imp id fun q => (List.mem_filter.mp q).1
  · exact .lst (.of (by
      rw [less_out]
      · exact h3
      · rw [List.mem_append]
        rintro (z | z)
        · exact h.dis a h2 z
        · simpa using (List.mem_filter.mp z).2)) (h4.up (less_anti fun b hb => by
      rw [List.mem_append] at hb ⊢
      exact hb.imp id fun q => (List.mem_filter.mp q).1))
end
end DC

set_option Elab.async false
set_option linter.all false
set_option maxRecDepth 100000
set_option maxHeartbeats 1000000
namespace DC
open PySem PySem.Spec PyProof.Rows L2

/-! ### results -/
inductive Rs where
  | fz (d : PyData) | nl (ds : List PyData) | nd (kvs : List (Key × PyData)) | ob (C : Addr) (fs : List (Str × PyData))
@[simp] def Rs.dat : Rs → Option PyData
  | .fz d => some d
  | .nl ds => some (.list ds)
  | _ => none
def VrOk (K : PySem.W.Frag) (M : List Addr) (H0 H : Hp) (v : V) : Rs → Prop
  | .fz d => Dp K (less H M) v d
  | .nl ds => ∃ p vs, v = .ref p ∧ H0 p = none ∧ H p = some (.lst vs) ∧ DpAll K (less H (p :: M)) vs ds
  | .nd kvs => ∃ p vs, v = .ref p ∧ H0 p = none ∧ H p = some (.dK vs) ∧ KvAll K (less H (p :: M)) vs kvs
  | .ob C fs => ObAt K (less H M) v C fs
def RsOk (K : PySem.W.Frag) (O L : List Addr) (H0 H : Hp) (σ : L2.St) (ρ : List Sl) (v : V) : Rs → Prop
  | .fz d => En K O L H σ ρ ∧ Dp K (less H (O ++ L)) v d
  | .nl ds => ∃ p vs, v = .ref p ∧ H0 p = none ∧ p ∉ O ∧ En K (p :: O) L H σ ρ ∧ H p = some (.lst vs) ∧ DpAll K (less H (p :: (O ++ L))) vs ds
  | .nd kvs => ∃ p vs, v = .ref p ∧ H0 p = none ∧ p ∉ O ∧ En K (p :: O) L H σ ρ ∧ H p = some (.dK vs) ∧ KvAll K (less H (p :: (O ++ L))) vs kvs
  | .ob C fs => En K O L H σ ρ ∧ ObAt K (less H (O ++ L)) v C fs
section
variable {K : PySem.W.Frag} {O L L' : List Addr} {H H0 H1 H' : Hp} {σ : L2.St} {ρ : List Sl} {v : V} {r : Rs}
theorem RsOk.en (h : RsOk K O L H0 H σ ρ v r) : En K O L H σ ρ := by
  cases r with
  | fz d => exact h.1
  | nl ds => obtain ⟨p, vs, _, _, _, e, _⟩ := h; exact e.drop
  | nd ds => obtain ⟨p, vs, _, _, _, e, _⟩ := h; exact e.drop
  | ob C fs => exact h.1
theorem RsOk.dp {d : PyData} (h : RsOk K O L H0 H σ ρ v r) (e : r.dat = some d) : Dp K (less H (O ++ L)) v d := by
  cases r with
  | fz d => cases e; exact h.2
  | nl ds =>
    cases e
    obtain ⟨p, vs, rfl, _, ho, I, hp, hd⟩ := h
    have hl : p ∉ L := fun w => I.dis p w (List.mem_cons_self)
    refine .lst (.of ?_) (hd.up (less_anti fun a z => List.mem_cons_of_mem _ z))
    rw [less_out fun z => (List.mem_append.mp z).elim ho hl]
    exact hp
  | nd ds => cases e
  | ob C fs => cases e
theorem RsOk.back (h : RsOk K O L H1 H σ ρ v r) (e : ∀ p, H1 p = none → H0 p = none) : RsOk K O L H0 H σ ρ v r := by
  cases r with
  | fz d => exact h
  | nl ds => obtain ⟨p, vs, h1, h2, h3⟩ := h; exact ⟨p, vs, h1, e p h2, h3⟩
  | nd ds => obtain ⟨p, vs, h1, h2, h3⟩ := h; exact ⟨p, vs, h1, e p h2, h3⟩
  | ob C fs => exact h
theorem RsOk.f {d : PyData} (I : En K O L H σ ρ) (h : Dp K (less H (O ++ L)) v d) : RsOk K O L H0 H σ ρ v (.fz d) := ⟨I, h⟩
theorem RsOk.o {C : Addr} {fs : List (Str × PyData)} (I : En K O L H σ ρ) (h : ObAt K (less H (O ++ L)) v C fs) : RsOk K O L H0 H σ ρ v (.ob C fs) := ⟨I, h⟩
/-- a step that changes nothing -/
theorem VrOk.rs (I : En K O L H0 σ ρ) (e : Same H0 H) (h : VrOk K (O ++ L) H0 H v r) : RsOk K O L H0 H σ ρ v r := by
  cases r with
  | fz d => exact ⟨I.grow e, h⟩
  | nl ds =>
    obtain ⟨p, vs, h1, h2, h3, h4⟩ := h
    exact ⟨p, vs, h1, h2, fun z => I.tr p (List.mem_append_left _ z) h2, I.push e h2 (by rw [h3]; simp), h3, h4⟩
  | nd ds =>
    obtain ⟨p, vs, h1, h2, h3, h4⟩ := h
    exact ⟨p, vs, h1, h2, fun z => I.tr p (List.mem_append_left _ z) h2, I.push e h2 (by rw [h3]; simp), h3, h4⟩
  | ob C fs => exact ⟨I.grow e, h⟩
end

/-! ### what a reading does on data -/
abbrev WE := List Sl → (Rs → List Sl → Prop) → Prop
abbrev WT := List Sl → (Bool → List Sl → Prop) → Prop
abbrev WA := List Sl → (List Sl → List Sl → Prop) → Prop
def Ev (K : PySem.W.Frag) (te : TE) (ρ : List Sl) (Q : Rs → List Sl → Prop) : Prop :=
  ∀ (O L : List Addr) (σ : L2.St) (H : Hp), En K O L H σ ρ → ∀ QV : VK, (∀ L' v H' r ρ', Go L H L' H' → RsOk K O L' H H' σ ρ' v r → Q r ρ' → QV v H') → te σ H QV
def EvT (K : PySem.W.Frag) (tt : TT) (ρ : List Sl) (Q : Bool → List Sl → Prop) : Prop :=
  ∀ (O L : List Addr) (σ : L2.St) (H : Hp), En K O L H σ ρ → ∀ QV : Bool → Hp → Prop, (∀ L' b H' ρ', Go L H L' H' → En K O L' H' σ ρ' → Q b ρ' → QV b H') → tt σ H QV
/-- an argument: data that stays, an instance -/
def ArOk (K : PySem.W.Frag) (G : Hp) (v : V) : Sl → Prop
  | .fz d => Dp K G v d
  | .ob C fs => ObAt K G v C fs
  | _ => False
theorem ArOk.up {K : PySem.W.Frag} {G G' : Hp} {v : V} {s : Sl} (e : Same G G') (h : ArOk K G v s) : ArOk K G' v s := by
  cases s with
  | fz d => exact Dp.up h e
  | ob C fs => exact ObAt.up h e
  | _ => exact h
inductive ArAll (K : PySem.W.Frag) (G : Hp) : List V → List Sl → Prop
  | nil : ArAll K G [] []
  | cons {v : V} {s : Sl} {vs : List V} {ss : List Sl} : ArOk K G v s → ArAll K G vs ss → ArAll K G (v :: vs) (s :: ss)
theorem ArAll.up {K : PySem.W.Frag} {G G' : Hp} (e : Same G G') : ∀ {vs : List V} {ss : List Sl}, ArAll K G vs ss → ArAll K G' vs ss
  | _, _, .nil => .nil
  | _, _, .cons a b => .cons (a.up e) (ArAll.up e b)
theorem ArAll.len {K : PySem.W.Frag} {G : Hp} : ∀ {vs : List V} {ss : List Sl}, ArAll K G vs ss → vs.length = ss.length
  | _, _, .nil => rfl
  | _, _, .cons _ b => congrArg Nat.succ b.len
@[simp] def datAll : List Sl → Option (List PyData)
  | [] => some []
  | .fz d :: r => (datAll r).map (d :: ·)
  | _ :: _ => none
theorem ArAll.dat {K : PySem.W.Frag} {G : Hp} : ∀ {vs : List V} {ss : List Sl} {ds : List PyData}, ArAll K G vs ss → datAll ss = some ds → DpAll K G vs ds
  | _, _, _, .nil, e => by cases e; exact .nil
  | _, s :: ss, ds, .cons a b, e => by
    cases s with
    | fz d =>
      unfold datAll at e
      cases q : datAll ss with
      | none => rw [q] at e; cases e
      | some es =>
        rw [q] at e
        cases e
        exact .cons a (b.dat q)
    | _ => cases e
def EvA (K : PySem.W.Frag) (ta : TA) (ρ : List Sl) (Q : List Sl → List Sl → Prop) : Prop :=
  ∀ (O L : List Addr) (σ : L2.St) (H : Hp), En K O L H σ ρ → ∀ QV : List V → Hp → Prop, (∀ L' vs H' ss ρ', Go L H L' H' → En K O L' H' σ ρ' → ArAll K (less H' (O ++ L')) vs ss → Q ss ρ' → QV vs H') → ta σ H QV

structure DE (X : Cx) (e : Expr) (te : TE) (w : WE) : Prop where
  pe : PE X e te
  ev : ∀ ρ Q, w ρ Q → Ev X.K te ρ Q
structure DT (X : Cx) (e : Expr) (tt : TT) (w : WT) : Prop where
  pt : PT X e tt
  ev : ∀ ρ Q, w ρ Q → EvT X.K tt ρ Q
structure DW (X : Cx) (e : Expr) (tt : TT) (w : WT) : Prop where
  pw : PW X e tt
  ev : ∀ ρ Q, w ρ Q → EvT X.K tt ρ Q
theorem DW.dt {X : Cx} {e : Expr} {tt : TT} {w : WT} (h : DW X e tt w) : DT X e tt w := ⟨h.pw.pt, h.ev⟩
structure DA (X : Cx) (es : List Expr) (ta : TA) (w : WA) : Prop where
  pa : PA X es ta
  ev : ∀ ρ Q, w ρ Q → EvA X.K ta ρ Q

/-! ### names, constants -/
@[simp] def wVar (i : Nat) : WE := fun ρ Q => match ρ[i]? with
  | some (.fz d) => Q (.fz d) ρ
  | some (.ow ds) => Q (.fz (.list ds)) (ρ.set i (.fz (.list ds)))
  | some (.ob C fs) => Q (.ob C fs) ρ
  | _ => False
theorem join_some {σ : L2.St} {i : Nat} {v : V} (h : σ[i]?.join = some v) : σ[i]? = some (some v) := by
  cases e : σ[i]? with
  | none => rw [e] at h; cases h
  | some o => rw [e] at h; exact congrArg some h
theorem ev_var {K : PySem.W.Frag} {i : Nat} (ρ : List Sl) (Q : Rs → List Sl → Prop) (h : wVar i ρ Q) : Ev K (tVar i) ρ Q := by
  intro O L σ H I QV q
  unfold wVar at h
  cases e : ρ[i]? with
  | none => rw [e] at h; exact h.elim
  | some s =>
    rw [e] at h
    have a := I.at_ i s e
    cases s with
    | fz d =>
      obtain ⟨v, h1, h2⟩ := a
      exact ⟨v, join_some h1, q L v H _ ρ Go.refl (.f I h2) h⟩
    | ow ds =>
      obtain ⟨b, L', h1, I', sub, hd⟩ := I.freeze e
      exact ⟨_, join_some h1, q L' _ H _ _ ⟨fun _ _ z _ => z, fun c z => .inl (sub c z), fun _ z => z⟩ (.f I' hd) h⟩
    | ob C fs =>
      obtain ⟨v, h1, h2⟩ := a
      exact ⟨v, join_some h1, q L v H _ ρ Go.refl (.o I h2) h⟩
    | un => exact h.elim
    | bw a ds => exact h.elim
    | od kvs => exact h.elim
theorem de_var (i : Nat) {X : Cx} {x : Str} {pos : Pos} (hN : X.N[i]? = some x := by rfl) (hv : Vis X.env.scope x := by first | exact Or.inl rfl | exact Or.inr (Or.inl rfl) | exact Or.inr (Or.inr rfl)) (hd : (x == ("__debug__" : Str)) = false := by decide)
    (hcd : (x == ("__classdict__" : Str)) = false := by decide) : DE X (.Name x pos) (tVar i) (wVar i) := ⟨pe_var hN hv hd hcd, ev_var⟩
@[simp] def wC (d : PyData) : WE := fun ρ Q => Q (.fz d) ρ
theorem ev_c {K : PySem.W.Frag} {v : V} {d : PyData} (h : ∀ G, Dp K G v d) (ρ : List Sl) (Q : Rs → List Sl → Prop) (w : wC d ρ Q) : Ev K (tC v) ρ Q := fun _ L _ H I _ q => q L v H _ ρ Go.refl (.f I (h _)) w
section
variable {X : Cx} {pos : Pos}
theorem de_int {i : Int} {j} : DE X (.Constant (.int i) j pos) (tC (.int i)) (wC (.int i)) := ⟨pe_int, ev_c fun _ => .int i⟩
theorem de_bl {b : Bool} {j} : DE X (.Constant (.bool b) j pos) (tC (.bl b)) (wC (.bool b)) := ⟨pe_bl, ev_c fun _ => .bl b⟩
theorem de_non {j} : DE X (.Constant .none j pos) (tC .non) (wC .none) := ⟨pe_non, ev_c fun _ => .non⟩
theorem de_str {x : Str} {j} : DE X (.Constant (.str x) j pos) (tC (.str x)) (wC (.str x)) := ⟨pe_str, ev_c fun _ => .str x⟩
/-- a module's constant -/
theorem de_globI {x : Str} {i : Int} (hg : Gl X x) (hm : ∃ t, X.mg x = some (.int i t)) (hd : (x == ("__debug__" : Str)) = false := by decide) : DE X (.Name x pos) (tC (.int i)) (wC (.int i)) :=
  ⟨let ⟨t, h⟩ := hm; pe_glob hg h ⟨t, rfl⟩ hd, ev_c fun _ => .int i⟩
theorem de_globS {x y : Str} (hg : Gl X x) (hm : ∃ t, X.mg x = some (.str y t)) (hd : (x == ("__debug__" : Str)) = false := by decide) : DE X (.Name x pos) (tC (.str y)) (wC (.str y)) :=
  ⟨let ⟨t, h⟩ := hm; pe_glob hg h ⟨t, rfl⟩ hd, ev_c fun _ => .str y⟩
end

/-! ### operations on values -/
abbrev D2 := PyData → PyData → (Rs → Prop) → Prop
def Lift2 (K : PySem.W.Frag) (r : R2) (rd : D2) : Prop :=
  ∀ (M : List Addr) (H : Hp) (x y : V) (d e : PyData) (Qd : Rs → Prop), (∀ a ∈ M, H a ≠ none) → Dp K (less H M) x d → Dp K (less H M) y e → rd d e Qd →
    ∀ Q : VK, (∀ v H' q, Same H H' → VrOk K M H H' v q → Qd q → Q v H') → r x y H Q
@[simp] def wOp (rd : D2) (wa wb : WE) : WE := fun ρ Q => wa ρ fun r1 ρ1 => wb ρ1 fun r2 ρ2 => match r1.dat, r2.dat with
  | some d, some e => rd d e fun r => Q r ρ2
  | _, _ => False
section
variable {K : PySem.W.Frag} {ta tb tc : TE} {wa wb wc : WE} {r : R2} {rd : D2}
theorem ev_op (l : Lift2 K r rd) (ha : ∀ ρ Q, wa ρ Q → Ev K ta ρ Q) (hb : ∀ ρ Q, wb ρ Q → Ev K tb ρ Q) (ρ : List Sl) (Q : Rs → List Sl → Prop) (h : wOp rd wa wb ρ Q) : Ev K (tOp r ta tb) ρ Q := by
  intro O L σ H I QV q
  refine ha ρ _ h O L σ H I _ fun L1 v H1 r1 ρ1 g1 R1 h1 => ?_
  refine hb ρ1 _ h1 O L1 σ H1 R1.en _ fun L2 u H2 r2 ρ2 g2 R2 h2 => ?_
  cases e1 : r1.dat with
  | none => simp only [e1] at h2
  | some d =>
    cases e2 : r2.dat with
    | none => simp only [e1, e2] at h2
    | some e =>
      simp only [e1, e2] at h2
      exact l (O ++ L2) H2 v u d e _ R2.en.tr ((R1.dp e1).up g2.less) (R2.dp e2) h2 _ fun w H3 q3 s3 ok3 hq =>
        q L2 w H3 q3 ρ2 (g1.trans (g2.trans (Go.same s3))) ((VrOk.rs R2.en s3 ok3).back fun p z => (g1.trans g2).free z) hq
end
theorem de_op {X : Cx} {op : Operator} {a b : Expr} {ta tb : TE} {wa wb : WE} {r : R2} {rd : D2} {pos : Pos} (ho : OpR X (binaryOp op) r) (l : Lift2 X.K r rd) (ha : DE X a ta wa) (hb : DE X b tb wb) : DE X (.BinOp a op b pos) (tOp r ta tb) (wOp rd wa wb) :=
  ⟨pe_op ho ha.pe hb.pe, ev_op l ha.ev hb.ev⟩
theorem de_cmp {X : Cx} {op : CmpOp} {a b : Expr} {ta tb : TE} {wa wb : WE} {r : R2} {rd : D2} {pos : Pos} (ho : OpR X (compareOp op) r) (l : Lift2 X.K r rd) (ha : DE X a ta wa) (hb : DE X b tb wb) (hm : behindInMarks op b = false) : DE X (.Compare a [op] [b] pos) (tOp r ta tb) (wOp rd wa wb) :=
  ⟨pe_cmpR ho ha.pe hb.pe hm, ev_op l ha.ev hb.ev⟩
@[simp] def wTest (we : WE) : WT := fun ρ Q => we ρ fun r ρ1 => match r with
  | .fz (.bool b) => Q b ρ1
  | _ => False
theorem ev_test {K : PySem.W.Frag} {te : TE} {we : WE} (h : ∀ ρ Q, we ρ Q → Ev K te ρ Q) (ρ : List Sl) (Q : Bool → List Sl → Prop) (w : wTest we ρ Q) : EvT K (tTest te) ρ Q := by
  intro O L σ H I QV q
  refine h ρ _ w O L σ H I _ fun L1 v H1 r1 ρ1 g1 R1 h1 => ?_
  split at h1
  · obtain ⟨I1, hd⟩ := R1
    cases hd
    exact ⟨_, rfl, q L1 _ H1 ρ1 g1 I1 h1⟩
  · exact h1.elim
theorem dt_cmp {X : Cx} {op : CmpOp} {a b : Expr} {ta tb : TE} {wa wb : WE} {r : R2} {rd : D2} {pos : Pos} (ho : OpR X (compareOp op) r) (l : Lift2 X.K r rd) (ha : DE X a ta wa) (hb : DE X b tb wb) (hm : behindInMarks op b = false) : DT X (.Compare a [op] [b] pos) (tTest (tOp r ta tb)) (wTest (wOp rd wa wb)) :=
  ⟨pt_cmpR ho ha.pe hb.pe hm, ev_test (ev_op l ha.ev hb.ev)⟩
/-- a value that is a bool, as a test -/
theorem dt_val {X : Cx} {e : Expr} {te : TE} {we : WE} (h : DE X e te we) (he : ∀ whole, isTrue e X.env whole = (do let v ← whole; standAt e.pos; holding [v] (truthy v)) := by intro _; rfl) : DT X e (tB te) (wTest we) :=
  ⟨pt_val h.pe he, ev_test h.ev⟩
/-- a <= b <= c -/
@[simp] def wChain (rd rd' : D2) (wa wb wc : WE) : WE := fun ρ Q => wa ρ fun r1 ρ1 => wb ρ1 fun r2 ρ2 => match r1.dat, r2.dat with
  | some d, some e => rd d e fun r => match r with
    | .fz (.bool true) => wc ρ2 fun r3 ρ3 => match r3.dat with
      | some f => rd' e f fun r => Q r ρ3
      | none => False
    | .fz (.bool false) => Q (.fz (.bool false)) ρ2
    | _ => False
  | _, _ => False
theorem ev_chain {K : PySem.W.Frag} {ta tb tc : TE} {wa wb wc : WE} {r r' : R2} {rd rd' : D2} (l : Lift2 K r rd) (l' : Lift2 K r' rd') (ha : ∀ ρ Q, wa ρ Q → Ev K ta ρ Q) (hb : ∀ ρ Q, wb ρ Q → Ev K tb ρ Q) (hc : ∀ ρ Q, wc ρ Q → Ev K tc ρ Q)
    (ρ : List Sl) (Q : Rs → List Sl → Prop) (h : wChain rd rd' wa wb wc ρ Q) : Ev K (tChain r r' ta tb tc) ρ Q := by
  intro O L σ H I QV q
  refine ha ρ _ h O L σ H I _ fun L1 v H1 r1 ρ1 g1 R1 h1 => ?_
  refine hb ρ1 _ h1 O L1 σ H1 R1.en _ fun L2 u H2 r2 ρ2 g2 R2 h2 => ?_
  cases e1 : r1.dat with
  | none => simp only [e1] at h2
  | some d =>
    cases e2 : r2.dat with
    | none => simp only [e1, e2] at h2
    | some e =>
      simp only [e1, e2] at h2
      refine l (O ++ L2) H2 v u d e _ R2.en.tr ((R1.dp e1).up g2.less) (R2.dp e2) h2 _ fun w H3 q3 s3 ok3 hq => ?_
      have I3 := R2.en.grow s3
      have g3 : Go L H L2 H3 := g1.trans (g2.trans (Go.same s3))
      split at hq
      · cases (show Dp K _ w (.bool true) from ok3)
        refine ⟨true, rfl, ?_⟩
        rw [if_pos rfl]
        refine hc ρ2 _ hq O L2 σ H3 I3 _ fun L4 z H4 r4 ρ4 g4 R4 h4 => ?_
        cases e4 : r4.dat with
        | none => simp only [e4] at h4
        | some f =>
          simp only [e4] at h4
          exact l' (O ++ L4) H4 u z e f _ R4.en.tr (((R2.dp e2).up (less_mono s3)).up g4.less) (R4.dp e4) h4 _ fun w5 H5 q5 s5 ok5 hq5 =>
            q L4 w5 H5 q5 ρ4 (g3.trans (g4.trans (Go.same s5))) ((VrOk.rs R4.en s5 ok5).back fun p z => (g3.trans g4).free z) hq5
      · cases (show Dp K _ w (.bool false) from ok3)
        refine ⟨false, rfl, ?_⟩
        rw [if_neg Bool.false_ne_true]
        exact q L2 _ H3 _ ρ2 g3 (.f I3 (.bl false)) hq
      · exact hq.elim
theorem de_chain {X : Cx} {op op' : CmpOp} {a b c : Expr} {ta tb tc : TE} {wa wb wc : WE} {r r' : R2} {rd rd' : D2} {pos : Pos} (ho : OpR X (compareOp op) r) (l : Lift2 X.K r rd) (ho' : OpR X (compareOp op') r') (l' : Lift2 X.K r' rd')
    (ha : DE X a ta wa) (hb : DE X b tb wb) (hc : DE X c tc wc) (hm : lastMarks [op, op'] [b, c] = false := by with_unfolding_all rfl) : DE X (.Compare a [op, op'] [b, c] pos) (tChain r r' ta tb tc) (wChain rd rd' wa wb wc) :=
  ⟨pe_chain ho ho' ha.pe hb.pe hc.pe hm, ev_chain l l' ha.ev hb.ev hc.ev⟩
theorem dt_chain {X : Cx} {op op' : CmpOp} {a b c : Expr} {ta tb tc : TE} {wa wb wc : WE} {r r' : R2} {rd rd' : D2} {pos : Pos} (ho : OpR X (compareOp op) r) (l : Lift2 X.K r rd) (ho' : OpR X (compareOp op') r') (l' : Lift2 X.K r' rd')
    (ha : DE X a ta wa) (hb : DE X b tb wb) (hc : DE X c tc wc) (hm : lastMarks [op, op'] [b, c] = false := by with_unfolding_all rfl) : DT X (.Compare a [op, op'] [b, c] pos) (tTest (tChain r r' ta tb tc)) (wTest (wChain rd rd' wa wb wc)) :=
  ⟨pt_chain ho ho' ha.pe hb.pe hc.pe hm, ev_test (ev_chain l l' ha.ev hb.ev hc.ev)⟩
abbrev D1 := PyData → (Rs → Prop) → Prop
def Lift1 (K : PySem.W.Frag) (r : V → Hp → VK → Prop) (rd : D1) : Prop :=
  ∀ (M : List Addr) (H : Hp) (x : V) (d : PyData) (Qd : Rs → Prop), (∀ a ∈ M, H a ≠ none) → Dp K (less H M) x d → rd d Qd →
    ∀ Q : VK, (∀ v H' q, Same H H' → VrOk K M H H' v q → Qd q → Q v H') → r x H Q
@[simp] def wUn (rd : D1) (wa : WE) : WE := fun ρ Q => wa ρ fun r1 ρ1 => match r1.dat with
  | some d => rd d fun r => Q r ρ1
  | none => False
theorem ev_un {K : PySem.W.Frag} {ta : TE} {wa : WE} {r : V → Hp → VK → Prop} {rd : D1} (l : Lift1 K r rd) (ha : ∀ ρ Q, wa ρ Q → Ev K ta ρ Q) (ρ : List Sl) (Q : Rs → List Sl → Prop) (h : wUn rd wa ρ Q) : Ev K (tUn r ta) ρ Q := by
  intro O L σ H I QV q
  refine ha ρ _ h O L σ H I _ fun L1 v H1 r1 ρ1 g1 R1 h1 => ?_
  cases e1 : r1.dat with
  | none => simp only [e1] at h1
  | some d =>
    simp only [e1] at h1
    exact l (O ++ L1) H1 v d _ R1.en.tr (R1.dp e1) h1 _ fun w H3 q3 s3 ok3 hq =>
      q L1 w H3 q3 ρ1 (g1.trans (Go.same s3)) ((VrOk.rs R1.en s3 ok3).back fun p z => g1.free z) hq
theorem de_un {X : Cx} {op : UnaryOp} {a : Expr} {ta : TE} {wa : WE} {r : V → Hp → VK → Prop} {rd : D1} {pos : Pos} (ho : UnR X (unaryOp op) r) (l : Lift1 X.K r rd) (ha : DE X a ta wa) : DE X (.UnaryOp op a pos) (tUn r ta) (wUn rd wa) :=
  ⟨pe_un ho ha.pe, ev_un l ha.ev⟩

/-! ### tests -/
@[simp] def wAnd (wt wu : WT) : WT := fun ρ Q => wt ρ fun b ρ1 => if b = true then wu ρ1 Q else Q false ρ1
@[simp] def wOr (wt wu : WT) : WT := fun ρ Q => wt ρ fun b ρ1 => if b = true then Q true ρ1 else wu ρ1 Q
@[simp] def wNot (wt : WT) : WT := fun ρ Q => wt ρ fun b ρ1 => Q (!b) ρ1
section
variable {X : Cx} {pos : Pos} {a b : Expr} {rest : List Expr} {tA tB' : TT} {wA wB : WT}
theorem dw_and1 (ha : DT X a tA wA) : DW X (.BoolOp .And [a] pos) tA wA := ⟨pw_and1 ha.pt, ha.ev⟩
theorem dw_or1 (ha : DT X a tA wA) : DW X (.BoolOp .Or [a] pos) tA wA := ⟨pw_or1 ha.pt, ha.ev⟩
theorem dw_and (ha : DT X a tA wA) (hb : DW X (.BoolOp .And (b :: rest) pos) tB' wB) : DW X (.BoolOp .And (a :: b :: rest) pos) (tAnd tA tB') (wAnd wA wB) := by
  refine ⟨pw_and ha.pt hb.pw, fun ρ Q h O L σ H I QV q => ?_⟩
  refine ha.ev ρ _ h O L σ H I _ fun L1 c H1 ρ1 g1 I1 h1 => ?_
  cases c with
  | true =>
    rw [if_pos rfl] at h1 ⊢
    exact hb.ev ρ1 _ h1 O L1 σ H1 I1 _ fun L2 c2 H2 ρ2 g2 I2 h2 => q L2 c2 H2 ρ2 (g1.trans g2) I2 h2
  | false =>
    rw [if_neg Bool.false_ne_true] at h1 ⊢
    exact q L1 false H1 ρ1 g1 I1 h1
theorem dw_or (ha : DT X a tA wA) (hb : DW X (.BoolOp .Or (b :: rest) pos) tB' wB) : DW X (.BoolOp .Or (a :: b :: rest) pos) (tOr tA tB') (wOr wA wB) := by
  refine ⟨pw_or ha.pt hb.pw, fun ρ Q h O L σ H I QV q => ?_⟩
  refine ha.ev ρ _ h O L σ H I _ fun L1 c H1 ρ1 g1 I1 h1 => ?_
  cases c with
  | true =>
    rw [if_pos rfl] at h1 ⊢
    exact q L1 true H1 ρ1 g1 I1 h1
  | false =>
    rw [if_neg Bool.false_ne_true] at h1 ⊢
    exact hb.ev ρ1 _ h1 O L1 σ H1 I1 _ fun L2 c2 H2 ρ2 g2 I2 h2 => q L2 c2 H2 ρ2 (g1.trans g2) I2 h2
theorem dt_not (ha : DT X a tA wA) : DT X (.UnaryOp .Not a pos) (tNot tA) (wNot wA) :=
  ⟨pt_not ha.pt, fun ρ Q h O L σ H I QV q => ha.ev ρ _ h O L σ H I _ fun L1 c H1 ρ1 g1 I1 h1 => q L1 (!c) H1 ρ1 g1 I1 h1⟩
end
/-! ### and, or, not as values of bools; a if t else b -/
@[simp] def wAndV (wa wb : WE) : WE := fun ρ Q => wa ρ fun r ρ1 => match r with
  | .fz (.bool true) => wb ρ1 Q
  | .fz (.bool false) => Q (.fz (.bool false)) ρ1
  | _ => False
@[simp] def wOrV (wa wb : WE) : WE := fun ρ Q => wa ρ fun r ρ1 => match r with
  | .fz (.bool true) => Q (.fz (.bool true)) ρ1
  | .fz (.bool false) => wb ρ1 Q
  | _ => False
@[simp] def wNotV (wa : WE) : WE := fun ρ Q => wa ρ fun r ρ1 => match r with
  | .fz (.bool b) => Q (.fz (.bool (!b))) ρ1
  | _ => False
@[simp] def wIf (wt : WT) (wa wb : WE) : WE := fun ρ Q => wt ρ fun b ρ1 => if b = true then wa ρ1 Q else wb ρ1 Q
section
variable {X : Cx} {pos : Pos} {a b c : Expr} {rest : List Expr} {ta tb : TE} {wa wb : WE} {tt : TT} {wt : WT}
theorem de_one {op} (h : DE X a ta wa) : DE X (.BoolOp op [a] pos) ta wa := ⟨pe_one h.pe, h.ev⟩
theorem de_and (ha : DE X a ta wa) (hb : DE X (.BoolOp .And (b :: rest) pos) tb wb) : DE X (.BoolOp .And (a :: b :: rest) pos) (tAndV ta tb) (wAndV wa wb) := by
  refine ⟨pe_and ha.pe hb.pe, fun ρ Q h O L σ H I QV q => ?_⟩
  refine ha.ev ρ _ h O L σ H I _ fun L1 v H1 r1 ρ1 g1 R1 h1 => ?_
  split at h1
  · obtain ⟨I1, hd⟩ := R1
    cases hd
    refine ⟨true, rfl, ?_⟩
    rw [if_pos rfl]
    exact hb.ev ρ1 _ h1 O L1 σ H1 I1 _ fun L2 v2 H2 r2 ρ2 g2 R2 h2 => q L2 v2 H2 r2 ρ2 (g1.trans g2) (R2.back fun p z => g1.free z) h2
  · obtain ⟨I1, hd⟩ := R1
    cases hd
    refine ⟨false, rfl, ?_⟩
    rw [if_neg Bool.false_ne_true]
    exact q L1 _ H1 _ ρ1 g1 (.f I1 (.bl false)) h1
  · exact h1.elim
theorem de_or (ha : DE X a ta wa) (hb : DE X (.BoolOp .Or (b :: rest) pos) tb wb) : DE X (.BoolOp .Or (a :: b :: rest) pos) (tOrV ta tb) (wOrV wa wb) := by
  refine ⟨pe_or ha.pe hb.pe, fun ρ Q h O L σ H I QV q => ?_⟩
  refine ha.ev ρ _ h O L σ H I _ fun L1 v H1 r1 ρ1 g1 R1 h1 => ?_
  split at h1
  · obtain ⟨I1, hd⟩ := R1
    cases hd
    refine ⟨true, rfl, ?_⟩
    rw [if_pos rfl]
    exact q L1 _ H1 _ ρ1 g1 (.f I1 (.bl true)) h1
  · obtain ⟨I1, hd⟩ := R1
    cases hd
    refine ⟨false, rfl, ?_⟩
    rw [if_neg Bool.false_ne_true]
    exact hb.ev ρ1 _ h1 O L1 σ H1 I1 _ fun L2 v2 H2 r2 ρ2 g2 R2 h2 => q L2 v2 H2 r2 ρ2 (g1.trans g2) (R2.back fun p z => g1.free z) h2
  · exact h1.elim
theorem de_not (ha : DE X a ta wa) : DE X (.UnaryOp .Not a pos) (tNotV ta) (wNotV wa) := by
  refine ⟨pe_not ha.pe, fun ρ Q h O L σ H I QV q => ?_⟩
  refine ha.ev ρ _ h O L σ H I _ fun L1 v H1 r1 ρ1 g1 R1 h1 => ?_
  split at h1
  · obtain ⟨I1, hd⟩ := R1
    cases hd
    exact ⟨_, rfl, q L1 _ H1 _ ρ1 g1 (.f I1 (.bl _)) h1⟩
  · exact h1.elim
theorem de_ifExp (hc : DT X c tt wt) (ha : DE X a ta wa) (hb : DE X b tb wb) : DE X (.IfExp c a b pos) (tIf tt ta tb) (wIf wt wa wb) := by
  refine ⟨pe_ifExp hc.pt ha.pe hb.pe, fun ρ Q h O L σ H I QV q => ?_⟩
  refine hc.ev ρ _ h O L σ H I _ fun L1 k H1 ρ1 g1 I1 h1 => ?_
  cases k with
  | true =>
    rw [if_pos rfl] at h1 ⊢
    exact ha.ev ρ1 _ h1 O L1 σ H1 I1 _ fun L2 v2 H2 r2 ρ2 g2 R2 h2 => q L2 v2 H2 r2 ρ2 (g1.trans g2) (R2.back fun p z => g1.free z) h2
  | false =>
    rw [if_neg Bool.false_ne_true] at h1 ⊢
    exact hb.ev ρ1 _ h1 O L1 σ H1 I1 _ fun L2 v2 H2 r2 ρ2 g2 R2 h2 => q L2 v2 H2 r2 ρ2 (g1.trans g2) (R2.back fun p z => g1.free z) h2
end

/-! ### arguments, displays -/
@[simp] def Rs.arg : Rs → Option Sl
  | .fz d => some (.fz d)
  | .nl ds => some (.fz (.list ds))
  | .ob C fs => some (.ob C fs)
  | .nd _ => none
theorem RsOk.ar {K : PySem.W.Frag} {O L : List Addr} {H0 H : Hp} {σ : L2.St} {ρ : List Sl} {v : V} {r : Rs} {s : Sl} (h : RsOk K O L H0 H σ ρ v r) (e : r.arg = some s) : ArOk K (less H (O ++ L)) v s := by
  cases r with
  | fz d => cases e; exact h.2
  | nl ds => cases e; exact h.dp rfl
  | nd ds => cases e
  | ob C fs => cases e; exact h.2
@[simp] def wNil : WA := fun ρ Q => Q [] ρ
@[simp] def wCons (wa : WE) (wr : WA) : WA := fun ρ Q => wa ρ fun r ρ1 => match r.arg with
  | some s => wr ρ1 fun ss ρ2 => Q (s :: ss) ρ2
  | none => False
section
variable {X : Cx} {pos : Pos} {e : Expr} {es : List Expr} {te : TE} {we : WE} {ta : TA} {wa : WA}
theorem da_nil : DA X [] tNil wNil := ⟨pa_nil, fun ρ Q h O L σ H I QV q => q L [] H [] ρ Go.refl I .nil h⟩
theorem da_cons (ha : DE X e te we) (hr : DA X es ta wa) (hs : starEach (e :: es) X.env = (false, eval e X.env) :: starEach es X.env := by rfl) : DA X (e :: es) (tCons te ta) (wCons we wa) := by
  refine ⟨pa_cons ha.pe hr.pa hs, fun ρ Q h O L σ H I QV q => ?_⟩
  refine ha.ev ρ _ h O L σ H I _ fun L1 v H1 r1 ρ1 g1 R1 h1 => ?_
  cases e1 : r1.arg with
  | none => simp only [e1] at h1
  | some s =>
    simp only [e1] at h1
    exact hr.ev ρ1 _ h1 O L1 σ H1 R1.en _ fun L2 vs H2 ss ρ2 g2 I2 a2 h2 => q L2 (v :: vs) H2 (s :: ss) ρ2 (g1.trans g2) I2 (.cons ((R1.ar e1).up g2.less) a2) h2
@[simp] def wTup (wa : WA) : WE := fun ρ Q => wa ρ fun ss ρ1 => match datAll ss with
  | some ds => ds.length ≤ 1000 ∧ Q (.fz (.tuple ds)) ρ1
  | none => False
@[simp] def wLst (wa : WA) : WE := fun ρ Q => wa ρ fun ss ρ1 => match datAll ss with
  | some ds => ds.length ≤ 1000 ∧ Q (.nl ds) ρ1
  | none => False
theorem le_line {n : Nat} (h : n ≤ 1000) : n ≤ sizeLine := Nat.le_trans h (by decide)
theorem not_mem_of_tr {M : List Addr} {H : Hp} (tr : ∀ a ∈ M, H a ≠ none) {p : Addr} (hp : H p = none) : p ∉ M := fun z => tr p z hp
/-- a new tuple of what stays -/
theorem new_tup {K : PySem.W.Frag} {M : List Addr} {H : Hp} {p : Addr} {vs : List V} {ds : List PyData} (tr : ∀ a ∈ M, H a ≠ none) (hp : H p = none) (h : DpAll K (less H M) vs ds) : Dp K (less (upd H p (.tup vs)) M) (.ref p) (.tuple ds) := by
  refine .tup (.of ?_) (h.up (less_mono fun b o z => by rw [upd_ne (ne_of_none z hp)]; exact z))
  rw [less_out (not_mem_of_tr tr hp)]
  exact upd_same
theorem new_same {H : Hp} {p : Addr} {o : HO} (hp : H p = none) : Same H (upd H p o) := fun b u z => by rw [upd_ne (ne_of_none z hp)]; exact z
/-- a new list of what stays -/
theorem new_lst {K : PySem.W.Frag} {M : List Addr} {H : Hp} {p : Addr} {vs : List V} {ds : List PyData} (hp : H p = none) (h : DpAll K (less H M) vs ds) : VrOk K M H (upd H p (.lst vs)) (.ref p) (.nl ds) :=
  ⟨p, vs, rfl, hp, upd_same, h.up fun b o z => by
    obtain ⟨h1, h2⟩ := less_some z
    have ne : b ≠ p := ne_of_none h2 hp
    rw [less_out, upd_ne ne]
    · exact h2
    · intro w
      exact (List.mem_cons.mp w).elim ne h1⟩
theorem de_tup {k} (h : DA X es ta wa) : DE X (.Tuple es k pos) (tTup ta) (wTup wa) := by
  refine ⟨pe_tup h.pa, fun ρ Q w O L σ H I QV q => ?_⟩
  refine h.ev ρ _ w O L σ H I _ fun L1 vs H1 ss ρ1 g1 I1 a1 h1 => ?_
  cases e1 : datAll ss with
  | none => simp only [e1] at h1
  | some ds =>
    simp only [e1] at h1
    have hd := a1.dat e1
    refine ⟨le_line (by rw [hd.len]; exact h1.1), fun p hp => ?_⟩
    exact q L1 _ _ _ ρ1 (g1.trans (Go.same (new_same hp))) (.f (I1.grow (new_same hp)) (new_tup I1.tr hp hd)) h1.2
theorem de_lst (h : DA X es ta wa) : DE X (.List es pos) (tLst ta) (wLst wa) := by
  refine ⟨pe_lst h.pa, fun ρ Q w O L σ H I QV q => ?_⟩
  refine h.ev ρ _ w O L σ H I _ fun L1 vs H1 ss ρ1 g1 I1 a1 h1 => ?_
  cases e1 : datAll ss with
  | none => simp only [e1] at h1
  | some ds =>
    simp only [e1] at h1
    have hd := a1.dat e1
    refine ⟨le_line (by rw [hd.len]; exact h1.1), fun p hp => ?_⟩
    exact q L1 _ _ _ ρ1 (g1.trans (Go.same (new_same hp))) ((VrOk.rs I1 (new_same hp) (new_lst hp hd)).back fun c z => g1.free z) h1.2

/-! ### built-ins called by their names -/
abbrev DCl := List PyData → (Rs → Prop) → Prop
def LiftC (K : PySem.W.Frag) (r : List V → Hp → VK → Prop) (rd : DCl) : Prop :=
  ∀ (M : List Addr) (H : Hp) (xs : List V) (ds : List PyData) (Qd : Rs → Prop), (∀ a ∈ M, H a ≠ none) → DpAll K (less H M) xs ds → rd ds Qd →
    ∀ Q : VK, (∀ v H' q, Same H H' → VrOk K M H H' v q → Qd q → Q v H') → r xs H Q
@[simp] def wCB (rd : DCl) (wa : WA) : WE := fun ρ Q => wa ρ fun ss ρ1 => match datAll ss with
  | some ds => rd ds fun r => Q r ρ1
  | none => False
theorem ev_cb {K : PySem.W.Frag} {r : List V → Hp → VK → Prop} {rd : DCl} (l : LiftC K r rd) (h : ∀ ρ Q, wa ρ Q → EvA K ta ρ Q) (ρ : List Sl) (Q : Rs → List Sl → Prop) (w : wCB rd wa ρ Q) : Ev K (tCB r ta) ρ Q := by
  intro O L σ H I QV q
  refine h ρ _ w O L σ H I _ fun L1 vs H1 ss ρ1 g1 I1 a1 h1 => ?_
  cases e1 : datAll ss with
  | none => simp only [e1] at h1
  | some ds =>
    simp only [e1] at h1
    exact l (O ++ L1) H1 vs ds _ I1.tr (a1.dat e1) h1 _ fun w H3 q3 s3 ok3 hq =>
      q L1 w H3 q3 ρ1 (g1.trans (Go.same s3)) ((VrOk.rs I1 s3 ok3).back fun p z => g1.free z) hq
theorem de_callB {id : String} {r : List V → Hp → VK → Prop} {rd : DCl} {x : Str} {p : Pos} (hc : CallR X (.builtin id) r) (l : LiftC X.K r rd) (hg : Gl X x) (hm : X.mg x = none) (hv : bootBuiltins x = some (.builtin id)) (ha : DA X (e :: es) ta wa)
    (hn : x ≠ "__name__" := by decide) (hdb : (x == ("__debug__" : Str)) = false := by decide) (he : starEach (e :: es) X.env = (false, eval e X.env) :: starEach es X.env := by rfl) (hpl : (backTo pos (starEach es X.env)).any (·.1) = false := by rfl) :
    DE X (.Call (.Name x p) (e :: es) [] pos) (tCB r ta) (wCB rd wa) := ⟨pe_callB hc hg hm hv ha.pa hn hdb he hpl, ev_cb l ha.ev⟩
theorem de_callTy {T : String} {r : List V → Hp → VK → Prop} {rd : DCl} {x : Str} {p : Pos} (hc : CallR X (.type T) r) (l : LiftC X.K r rd) (hg : Gl X x) (hm : X.mg x = none) (hv : bootBuiltins x = some (.type T)) (ha : DA X (e :: es) ta wa)
    (hn : x ≠ "__name__" := by decide) (hdb : (x == ("__debug__" : Str)) = false := by decide) (he : starEach (e :: es) X.env = (false, eval e X.env) :: starEach es X.env := by rfl) (hpl : (backTo pos (starEach es X.env)).any (·.1) = false := by rfl) :
    DE X (.Call (.Name x p) (e :: es) [] pos) (tCB r ta) (wCB rd wa) := ⟨pe_callTy hc hg hm hv ha.pa hn hdb he hpl, ev_cb l ha.ev⟩
end
end DC

set_option Elab.async false
set_option linter.all false
set_option maxRecDepth 100000
set_option maxHeartbeats 1000000
namespace DC
open PySem PySem.Spec PyProof.Rows L2

/-! ### names whose list is read, not handed on -/
@[simp] def rdL : Option Sl → Option (List PyData)
  | some (.fz (.list ds)) => some ds
  | some (.ow ds) => some ds
  | some (.bw _ ds) => some ds
  | _ => none
@[simp] def owL : Option Sl → Option (List PyData)
  | some (.ow ds) => some ds
  | some (.bw _ ds) => some ds
  | _ => none
@[simp] def setOw (ρ : List Sl) (i : Nat) (ds : List PyData) : List Sl := match ρ[i]? with
  | some (.bw a _) => ρ.set i (.bw a ds)
  | _ => ρ.set i (.ow ds)
section
variable {K : PySem.W.Frag} {O L : List Addr} {H : Hp} {σ : L2.St} {ρ : List Sl} {i : Nat} {ds : List PyData}
theorem En.rdL (I : En K O L H σ ρ) (h : rdL ρ[i]? = some ds) : ∃ a vs, σ[i]? = some (some (.ref a)) ∧ SqL K H a vs ∧ DpAll K (less H (O ++ L)) vs ds := by
  cases e : ρ[i]? with
  | none => rw [e] at h; cases h
  | some s =>
    rw [e] at h
    have a := I.at_ i s e
    cases s with
    | un => cases h
    | fz d =>
      cases d with
      | list es =>
        cases h
        obtain ⟨v, h1, h2⟩ := a
        cases h2 with
        | lst s1 a1 => exact ⟨_, _, join_some h1, sql_mono less_sub s1, a1⟩
      | _ => cases h
    | ow es => cases h; obtain ⟨b, vs, h1, h2, h3, h4⟩ := a; exact ⟨b, vs, join_some h1, .of h3, h4⟩
    | bw b es => cases h; obtain ⟨vs, h1, h2, h3, h4⟩ := a; exact ⟨b, vs, join_some h1, .of h3, h4⟩
    | od es => cases h
    | ob C fs => cases h
theorem En.owL (I : En K O L H σ ρ) (h : owL ρ[i]? = some ds) : ∃ a vs, σ[i]? = some (some (.ref a)) ∧ a ∈ L ∧ H a = some (.lst vs) ∧ DpAll K (less H (O ++ L)) vs ds ∧
    ∀ vs' es, DpAll K (less H (O ++ L)) vs' es → En K O L (upd H a (.lst vs')) σ (setOw ρ i es) := by
  cases e : ρ[i]? with
  | none => rw [e] at h; cases h
  | some s =>
    rw [e] at h
    have a := I.at_ i s e
    cases s with
    | un => cases h
    | fz d => cases h
    | ow es =>
      cases h
      obtain ⟨b, vs, h1, h2, h3, h4⟩ := a
      refine ⟨b, vs, join_some h1, h2, h3, h4, fun vs' es' hd => ?_⟩
      have hs : setOw ρ i es' = ρ.set i (.ow es') := by unfold setOw; rw [e]
      rw [hs]
      exact I.mut e trivial h1 h2 ⟨b, vs', rfl, h2, upd_same, by rw [less_upd (List.mem_append_right _ h2)]; exact hd⟩ trivial
    | bw b es =>
      cases h
      obtain ⟨vs, h1, h2, h3, h4⟩ := a
      refine ⟨b, vs, join_some h1, h2, h3, h4, fun vs' es' hd => ?_⟩
      have hs : setOw ρ i es' = ρ.set i (.bw b es') := by unfold setOw; rw [e]
      rw [hs]
      exact I.mut e trivial h1 h2 ⟨vs', rfl, h2, upd_same, by rw [less_upd (List.mem_append_right _ h2)]; exact hd⟩ trivial
    | od es => cases h
    | ob C fs => cases h
theorem Go.mut {a : Addr} {o : HO} (ha : a ∈ L) : Go L H L (upd H a o) := ⟨fun b o' h hb => by rw [upd_ne fun z => hb (by rw [z]; exact ha)]; exact h, fun _ z => .inl z, fun b h => by
  by_cases e : b = a
  · rw [e, upd_same]; simp
  · rw [upd_ne e]; exact h⟩
end
/-- len(name) -/
@[simp] def wLenV (i : Nat) : WE := fun ρ Q => match rdL ρ[i]? with
  | some ds => Q (.fz (.int ds.length)) ρ
  | none => False
/-- len's reading on a name -/
theorem ev_lenV {K : PySem.W.Frag} {r : List V → Hp → VK → Prop} (hr : ∀ p ys H Q, SqL K H p ys → Q (.int ys.length) H → r [.ref p] H Q) {i : Nat} (ρ : List Sl) (Q : Rs → List Sl → Prop) (h : wLenV i ρ Q) : Ev K (tCB r (tCons (tVar i) tNil)) ρ Q := by
  intro O L σ H I QV q
  unfold wLenV at h
  cases e : rdL ρ[i]? with
  | none => rw [e] at h; exact h.elim
  | some ds =>
    rw [e] at h
    obtain ⟨a, vs, h1, h2, h3⟩ := I.rdL e
    refine ⟨_, h1, hr a vs H _ h2 ?_⟩
    refine q L _ H _ ρ Go.refl (.f I ?_) h
    rw [h3.len]
    exact .int _
section
variable {X : Cx} {pos : Pos}
theorem de_lenV (i : Nat) {x : Str} {p p2 : Pos} (hg : Gl X "len") (hm : X.mg "len" = none) (hN : X.N[i]? = some x := by rfl) (hv : Vis X.env.scope x := by first | exact Or.inl rfl | exact Or.inr (Or.inl rfl) | exact Or.inr (Or.inr rfl)) (hd : (x == ("__debug__" : Str)) = false := by decide)
    (hcd : (x == ("__classdict__" : Str)) = false := by decide) (he : starEach [.Name x p2] X.env = (false, eval (.Name x p2) X.env) :: starEach [] X.env := by rfl) : DE X (.Call (.Name "len" p) [.Name x p2] [] pos) (tCB (fun xs H Q => ∃ p ys, xs = [.ref p] ∧ (SqL X.K H p ys ∨ SqT X.K H p ys) ∧ Q (.int ys.length) H) (tCons (tVar i) tNil)) (wLenV i) :=
  ⟨pe_callB call_len_seq hg hm PySem.boot_len (pa_cons (pe_var hN hv hd hcd) pa_nil he) (by decide) (by decide) he rfl, ev_lenV fun p ys H Q h q => ⟨p, ys, rfl, .inl h, q⟩⟩
/-- name[k], the name's list not handed on -/
@[simp] def wIxV (i : Nat) (wb : WE) : WE := fun ρ Q => (rdL ρ[i]?).isSome = true ∧ wb ρ fun r ρ1 => match r.dat, rdL ρ1[i]? with
  | some (.int k), some ds => match atI ds k with
    | some d => Q (.fz d) ρ1
    | none => False
  | _, _ => False
theorem dpAll_atI {K : PySem.W.Frag} {H : Hp} {vs : List V} {ds : List PyData} {k : Int} {d : PyData} (h : DpAll K H vs ds) (e : L2.atI ds k = some d) : ∃ v, L2.atI vs k = some v ∧ Dp K H v d := by
  unfold L2.atI at e ⊢
  rw [h.len]
  cases q : ixN ds.length k with
  | none => rw [q] at e; cases e
  | some j => rw [q] at e; exact h.at_ e
theorem de_ixV (i : Nat) {x : Str} {p2 : Pos} {b : Expr} {tb : TE} {wb : WE} (hb : DE X b tb wb) (hs : PlainIx b) (hN : X.N[i]? = some x := by rfl) (hv : Vis X.env.scope x := by first | exact Or.inl rfl | exact Or.inr (Or.inl rfl) | exact Or.inr (Or.inr rfl)) (hd : (x == ("__debug__" : Str)) = false := by decide)
    (hcd : (x == ("__classdict__" : Str)) = false := by decide) : DE X (.Subscript (.Name x p2) b pos) (tOp (rIxL X.K) (tVar i) tb) (wIxV i wb) := by
  refine ⟨pe_ix ix_list (pe_var hN hv hd hcd) hb.pe hs, fun ρ Q ⟨h0, h⟩ O L σ H I QV q => ?_⟩
  cases e0 : rdL ρ[i]? with
  | none => rw [e0] at h0; cases h0
  | some ds0 =>
    obtain ⟨a0, vs0, w1, _, _⟩ := I.rdL e0
    refine ⟨_, w1, hb.ev ρ _ h O L σ H I _ fun L1 y H1 r1 ρ1 g1 R1 h1 => ?_⟩
    cases e1 : r1.dat with
    | none => simp only [e1] at h1
    | some d =>
      cases d with
      | int k =>
        cases e2 : rdL ρ1[i]? with
        | none => simp only [e1, e2] at h1
        | some ds =>
          cases e3 : atI ds k with
          | none => simp only [e1, e2, e3] at h1
          | some d =>
            simp only [e1, e2, e3] at h1
            obtain ⟨a, vs, k1, k2, k3⟩ := R1.en.rdL e2
            rw [w1] at k1
            cases k1
            cases (R1.dp e1)
            obtain ⟨v, k4, k5⟩ := dpAll_atI k3 e3
            exact ⟨_, vs, k, v, rfl, rfl, k2, k4, q L1 v H1 _ ρ1 g1 (.f R1.en k5) h1⟩
      | _ => simp only [e1] at h1
/-- name == [], name != [] -/
@[simp] def wIsNilV (neg : Bool) (i : Nat) : WT := fun ρ Q => match rdL ρ[i]? with
  | some ds => SeqAt.shaped (.list ds) = true ∧ Q (if neg then !ds.isEmpty else ds.isEmpty) ρ
  | none => False
theorem eqv_nil (ds : List PyData) : PyData.eqv (.list ds) (.list []) = ds.isEmpty := by
  cases ds with
  | nil => simp [PyData.eqv, PyData.eqvAll]
  | cons d r => simp [PyData.eqv, PyData.eqvAll]
theorem dt_neNilV (i : Nat) {x : Str} {p2 p3 : Pos} (hr : X.A.units + 64 < cLine) (hN : X.N[i]? = some x := by rfl) (hv : Vis X.env.scope x := by first | exact Or.inl rfl | exact Or.inr (Or.inl rfl) | exact Or.inr (Or.inr rfl)) (hd : (x == ("__debug__" : Str)) = false := by decide)
    (hcd : (x == ("__classdict__" : Str)) = false := by decide) : DT X (.Compare (.Name x p2) [.NotEq] [.List [] p3] pos) (tTest (tOp (rNeD X.K) (tVar i) (tLst tNil))) (wIsNilV true i) := by
  refine ⟨pt_cmpR (op_neD hr) (pe_var hN hv hd hcd) (pe_lst pa_nil) (nomark _), fun ρ Q h O L σ H I QV q => ?_⟩
  unfold wIsNilV at h
  cases e : rdL ρ[i]? with
  | none => simp only [e] at h
  | some ds =>
    simp only [e] at h
    obtain ⟨a, vs, h1, h2, h3⟩ := I.rdL e
    refine ⟨_, h1, Nat.zero_le _, fun p hp => ?_⟩
    have s1 : Same H (upd H p (.lst [])) := new_same hp
    refine ⟨.list ds, .list [], .lst (sql_mono s1 h2) (h3.up fun b o z => s1 b o (less_sub b o z)), .lst (.of upd_same) .nil, h.1, by decide, !ds.isEmpty, ?_, ?_⟩
    · rw [eqv_nil]
    · exact q L _ _ ρ (Go.same s1) (I.grow s1) h.2
theorem dt_eqNilV (i : Nat) {x : Str} {p2 p3 : Pos} (hr : X.A.units + 64 < cLine) (hN : X.N[i]? = some x := by rfl) (hv : Vis X.env.scope x := by first | exact Or.inl rfl | exact Or.inr (Or.inl rfl) | exact Or.inr (Or.inr rfl)) (hd : (x == ("__debug__" : Str)) = false := by decide)
    (hcd : (x == ("__classdict__" : Str)) = false := by decide) : DT X (.Compare (.Name x p2) [.Eq] [.List [] p3] pos) (tTest (tOp (rEqD X.K) (tVar i) (tLst tNil))) (wIsNilV false i) := by
  refine ⟨pt_cmpR (op_eqD hr) (pe_var hN hv hd hcd) (pe_lst pa_nil) (nomark _), fun ρ Q h O L σ H I QV q => ?_⟩
  unfold wIsNilV at h
  cases e : rdL ρ[i]? with
  | none => simp only [e] at h
  | some ds =>
    simp only [e] at h
    obtain ⟨a, vs, h1, h2, h3⟩ := I.rdL e
    refine ⟨_, h1, Nat.zero_le _, fun p hp => ?_⟩
    have s1 : Same H (upd H p (.lst [])) := new_same hp
    refine ⟨.list ds, .list [], .lst (sql_mono s1 h2) (h3.up fun b o z => s1 b o (less_sub b o z)), .lst (.of upd_same) .nil, h.1, by decide, ds.isEmpty, ?_, ?_⟩
    · rw [eqv_nil]
    · exact q L _ _ ρ (Go.same s1) (I.grow s1) h.2
/-! ### methods that change an owned list -/
@[simp] def wAppend (i : Nat) (we : WE) : WE := fun ρ Q => (rdL ρ[i]?).isSome = true ∧ we ρ fun r ρ1 => match r.dat, owL ρ1[i]? with
  | some d, some ds => ds.length < 10000000 ∧ Q (.fz .none) (setOw ρ1 i (ds ++ [d]))
  | _, _ => False
theorem lt_line {n : Nat} (h : n < 10000000) : n < sizeLine := Nat.lt_of_lt_of_le h (by rw [sizeLine_eq]; decide)
theorem le_line' {n : Nat} (h : n ≤ 10000000) : n ≤ sizeLine := Nat.le_trans h (by rw [sizeLine_eq]; decide)
theorem de_append (i : Nat) {x : Str} {p2 p3 : Pos} {e : Expr} {te : TE} {we : WE} (he : DE X e te we) (hN : X.N[i]? = some x := by rfl) (hv : Vis X.env.scope x := by first | exact Or.inl rfl | exact Or.inr (Or.inl rfl) | exact Or.inr (Or.inr rfl)) (hd : (x == ("__debug__" : Str)) = false := by decide)
    (hcd : (x == ("__classdict__" : Str)) = false := by decide) (hbase : attributeBase (.Name x p2) "append" X.env (eval (.Name x p2) X.env) = eval (.Name x p2) X.env := by rfl)
    (hfew : ((backTo pos (starEach (e :: []) X.env)).all (fun x => !x.1) && (backToKw pos (keywordEach [] X.env)).all (fun x => x.1.isSome)
      && decide ((e :: []).length + ([] : List Keyword).length + (if ([] : List Keyword).isEmpty then 0 else 1) < 30)) = true := by rfl)
    (hline : (p3.endLine == pos.line) = true := by rfl) (hs : starEach (e :: []) X.env = (false, eval e X.env) :: starEach [] X.env := by rfl) : DE X (.Call (.Attribute (.Name x p2) "append" p3) [e] [] pos) (tBM X.K "list" rAppend (tVar i) (tCons te tNil)) (wAppend i we) := by
  refine ⟨pe_bm PySem.F.plainAttrs_list PySem.F.slot_list_append PySem.F.type_list_append mt_append (pe_var hN hv hd hcd) (pa_cons he.pe pa_nil hs) hbase hfew hline hs rfl, fun ρ Q ⟨h0, h⟩ O L σ H I QV q => ?_⟩
  cases e0 : rdL ρ[i]? with
  | none => rw [e0] at h0; cases h0
  | some ds0 =>
    obtain ⟨a0, vs0, w1, w2, _⟩ := I.rdL e0
    refine ⟨_, w1, .inl ⟨rfl, _, w2⟩, he.ev ρ _ h O L σ H I _ fun L1 y H1 r1 ρ1 g1 R1 h1 => ?_⟩
    cases e1 : r1.dat with
    | none => simp only [e1] at h1
    | some d =>
      cases e2 : owL ρ1[i]? with
      | none => simp only [e1, e2] at h1
      | some ds =>
        simp only [e1, e2] at h1
        obtain ⟨a, vs, k1, k2, k3, k4, k5⟩ := R1.en.owL e2
        rw [w1] at k1
        cases k1
        refine ⟨_, vs, y, rfl, rfl, k3, lt_line (by rw [k4.len]; exact h1.1), ?_⟩
        exact q L1 _ _ _ _ (g1.trans (Go.mut k2)) (.f (k5 _ _ (k4.app (.cons (R1.dp e1) .nil))) .non) h1.2
/-- name.extend(a new list) -/
@[simp] def wExtend (i : Nat) (we : WE) : WE := fun ρ Q => (rdL ρ[i]?).isSome = true ∧ we ρ fun r ρ1 => match r, owL ρ1[i]? with
  | .nl es, some ds => ds.length + es.length ≤ 10000000 ∧ Q (.fz .none) (setOw ρ1 i (ds ++ es))
  | _, _ => False
theorem de_extend (i : Nat) {x : Str} {p2 p3 : Pos} {e : Expr} {te : TE} {we : WE} (he : DE X e te we) (hN : X.N[i]? = some x := by rfl) (hv : Vis X.env.scope x := by first | exact Or.inl rfl | exact Or.inr (Or.inl rfl) | exact Or.inr (Or.inr rfl)) (hd : (x == ("__debug__" : Str)) = false := by decide)
    (hcd : (x == ("__classdict__" : Str)) = false := by decide) (hbase : attributeBase (.Name x p2) "extend" X.env (eval (.Name x p2) X.env) = eval (.Name x p2) X.env := by rfl)
    (hfew : ((backTo pos (starEach (e :: []) X.env)).all (fun x => !x.1) && (backToKw pos (keywordEach [] X.env)).all (fun x => x.1.isSome)
      && decide ((e :: []).length + ([] : List Keyword).length + (if ([] : List Keyword).isEmpty then 0 else 1) < 30)) = true := by rfl)
    (hline : (p3.endLine == pos.line) = true := by rfl) (hs : starEach (e :: []) X.env = (false, eval e X.env) :: starEach [] X.env := by rfl) : DE X (.Call (.Attribute (.Name x p2) "extend" p3) [e] [] pos) (tBM X.K "list" rExtend (tVar i) (tCons te tNil)) (wExtend i we) := by
  refine ⟨pe_bm PySem.F.plainAttrs_list PySem.F.slot_list_extend PySem.F.type_list_extend mt_extend (pe_var hN hv hd hcd) (pa_cons he.pe pa_nil hs) hbase hfew hline hs rfl, fun ρ Q ⟨h0, h⟩ O L σ H I QV q => ?_⟩
  cases e0 : rdL ρ[i]? with
  | none => rw [e0] at h0; cases h0
  | some ds0 =>
    obtain ⟨a0, vs0, w1, w2, _⟩ := I.rdL e0
    refine ⟨_, w1, .inl ⟨rfl, _, w2⟩, he.ev ρ _ h O L σ H I _ fun L1 y H1 r1 ρ1 g1 R1 h1 => ?_⟩
    cases r1 with
    | nl es =>
      cases e2 : owL ρ1[i]? with
      | none => simp only [e2] at h1
      | some ds =>
        simp only [e2] at h1
        obtain ⟨p, us, rfl, _, np, I1, hp, hus⟩ := R1
        obtain ⟨a, vs, k1, k2, k3, k4, k5⟩ := I1.drop.owL e2
        rw [w1] at k1
        cases k1
        refine ⟨_, p, vs, us, rfl, rfl, k3, hp, le_line' (by rw [k4.len, hus.len]; exact h1.1), ?_⟩
        exact q L1 _ _ _ _ (g1.trans (Go.mut k2)) (.f (k5 _ _ (k4.app (hus.up (less_anti fun a z => List.mem_cons_of_mem _ z)))) .non) h1.2
    | _ => exact h1.elim
/-- name.pop() -/
@[simp] def wPop (i : Nat) : WE := fun ρ Q => match owL ρ[i]? with
  | some ds => match ds[ds.length - 1]? with
    | some d => Q (.fz d) (setOw ρ i ds.dropLast)
    | none => False
  | none => False
theorem de_pop (i : Nat) {x : Str} {p2 p3 : Pos} (hN : X.N[i]? = some x := by rfl) (hv : Vis X.env.scope x := by first | exact Or.inl rfl | exact Or.inr (Or.inl rfl) | exact Or.inr (Or.inr rfl)) (hd : (x == ("__debug__" : Str)) = false := by decide)
    (hcd : (x == ("__classdict__" : Str)) = false := by decide) (hbase : attributeBase (.Name x p2) "pop" X.env (eval (.Name x p2) X.env) = eval (.Name x p2) X.env := by rfl)
    (hline : (p3.endLine == pos.line) = true := by rfl) : DE X (.Call (.Attribute (.Name x p2) "pop" p3) [] [] pos) (tBM0 X.K "list" rPop (tVar i)) (wPop i) := by
  refine ⟨pe_bm0 PySem.F.plainAttrs_list PySem.F.slot_list_pop PySem.F.type_list_pop mt_pop (pe_var hN hv hd hcd) hbase hline, fun ρ Q h O L σ H I QV q => ?_⟩
  unfold wPop at h
  cases e2 : owL ρ[i]? with
  | none => simp only [e2] at h
  | some ds =>
    simp only [e2] at h
    cases e3 : ds[ds.length - 1]? with
    | none => simp only [e3] at h
    | some d =>
      simp only [e3] at h
      obtain ⟨a, vs, k1, k2, k3, k4, k5⟩ := I.owL e2
      obtain ⟨v, m1, m2⟩ := k4.at_ e3
      refine ⟨_, k1, .inl ⟨rfl, _, .of k3⟩, a, vs, v, rfl, rfl, k3, by rw [k4.len]; exact m1, ?_⟩
      exact q L _ _ _ _ (Go.mut k2) (.f (k5 _ _ k4.dropLast) (by rw [less_upd (List.mem_append_right _ k2)]; exact m2)) h
/-- name.pop(k), 0 <= k -/
@[simp] def wPopAt (i : Nat) (we : WE) : WE := fun ρ Q => (rdL ρ[i]?).isSome = true ∧ we ρ fun r ρ1 => match r.dat, owL ρ1[i]? with
  | some (.int k), some ds => (0 ≤ k ∧ k < 1000000) ∧ match ds[k.toNat]? with
    | some d => Q (.fz d) (setOw ρ1 i (ds.eraseIdx k.toNat))
    | none => False
  | _, _ => False
theorem seqIndex_nn {k : Int} {n : Nat} (h : 0 ≤ k) (h' : k.toNat < n) : seqIndex? k n = some k.toNat := by
  have := (ixN_seq (n := n) (i := k) (j := k.toNat) (by unfold ixN; rw [if_pos h, if_pos (by omega)])).1
  exact this
theorem de_popAt (i : Nat) {x : Str} {p2 p3 : Pos} {e : Expr} {te : TE} {we : WE} (he : DE X e te we) (hN : X.N[i]? = some x := by rfl) (hv : Vis X.env.scope x := by first | exact Or.inl rfl | exact Or.inr (Or.inl rfl) | exact Or.inr (Or.inr rfl)) (hd : (x == ("__debug__" : Str)) = false := by decide)
    (hcd : (x == ("__classdict__" : Str)) = false := by decide) (hbase : attributeBase (.Name x p2) "pop" X.env (eval (.Name x p2) X.env) = eval (.Name x p2) X.env := by rfl)
    (hfew : ((backTo pos (starEach (e :: []) X.env)).all (fun x => !x.1) && (backToKw pos (keywordEach [] X.env)).all (fun x => x.1.isSome)
      && decide ((e :: []).length + ([] : List Keyword).length + (if ([] : List Keyword).isEmpty then 0 else 1) < 30)) = true := by rfl)
    (hline : (p3.endLine == pos.line) = true := by rfl) (hs : starEach (e :: []) X.env = (false, eval e X.env) :: starEach [] X.env := by rfl) : DE X (.Call (.Attribute (.Name x p2) "pop" p3) [e] [] pos) (tBM X.K "list" rPopAt (tVar i) (tCons te tNil)) (wPopAt i we) := by
  refine ⟨pe_bm PySem.F.plainAttrs_list PySem.F.slot_list_pop PySem.F.type_list_pop mt_popAt (pe_var hN hv hd hcd) (pa_cons he.pe pa_nil hs) hbase hfew hline hs rfl, fun ρ Q ⟨h0, h⟩ O L σ H I QV q => ?_⟩
  cases e0 : rdL ρ[i]? with
  | none => rw [e0] at h0; cases h0
  | some ds0 =>
    obtain ⟨a0, vs0, w1, w2, _⟩ := I.rdL e0
    refine ⟨_, w1, .inl ⟨rfl, _, w2⟩, he.ev ρ _ h O L σ H I _ fun L1 y H1 r1 ρ1 g1 R1 h1 => ?_⟩
    cases e1 : r1.dat with
    | none => simp only [e1] at h1
    | some d =>
      cases d with
      | int k =>
        cases e2 : owL ρ1[i]? with
        | none => simp only [e1, e2] at h1
        | some ds =>
          simp only [e1, e2] at h1
          obtain ⟨hk, h1⟩ := h1
          cases e3 : ds[k.toNat]? with
          | none => simp only [e3] at h1
          | some d =>
            simp only [e3] at h1
            obtain ⟨a, vs, k1, k2, k3, k4, k5⟩ := R1.en.owL e2
            rw [w1] at k1
            cases k1
            cases (R1.dp e1)
            obtain ⟨v, m1, m2⟩ := k4.at_ e3
            have hl : k.toNat < vs.length := (List.getElem?_eq_some_iff.mp m1).1
            refine ⟨_, vs, k, k.toNat, v, rfl, rfl, k3, by omega, by omega, seqIndex_nn hk.1 hl, m1, ?_⟩
            exact q L1 _ _ _ _ (g1.trans (Go.mut k2)) (.f (k5 _ _ (k4.erase _)) (by rw [less_upd (List.mem_append_right _ k2)]; exact m2)) h1
      | _ => simp only [e1] at h1
end

/-! ### fields of an instance, slices -/
@[simp] def wFld (C : Addr) (f : Str) (wo : WE) : WE := fun ρ Q => wo ρ fun r ρ1 => match r with
  | .ob C' fs => C' = C ∧ match fs.lookup f with
    | some (.dict kvs) => ∃ C1 fs1, encOb C1 fs1 = .dict kvs ∧ Q (.ob C1 fs1) ρ1
    | some d => Q (.fz d) ρ1
    | none => False
  | _ => False
section
variable {X : Cx} {pos : Pos}
theorem de_fld {o : Expr} {to : TE} {wo : WE} {C : Addr} {f : Str} (ho : DE X o to wo) (hC : Cls X.K C) (hn : NoAttr X.K C f) (hb : attributeBase o f X.env (eval o X.env) = eval o X.env := by rfl) : DE X (.Attribute o f pos) (tFld X.K to f) (wFld C f wo) := by
  refine ⟨pe_fld ho.pe hb, fun ρ Q h O L σ H I QV q => ?_⟩
  refine ho.ev ρ _ h O L σ H I _ fun L1 y H1 r1 ρ1 g1 R1 h1 => ?_
  cases r1 with
  | ob C' fs =>
    obtain ⟨rfl, h1⟩ := h1
    obtain ⟨I1, p, dx, vs, rfl, hp, hf, _⟩ := R1
    cases e : fs.lookup f with
    | none => simp only [e] at h1
    | some d =>
      obtain ⟨x, hx, hd⟩ := hf f d e
      refine ⟨p, C', dx, vs, x, rfl, less_sub _ _ hp, hC, hn, hx, ?_⟩
      have flat : (∀ kvs, d ≠ .dict kvs) → Dp X.K (less H1 (O ++ L1)) x d := fun n => hd.elim id fun ⟨C2, fs2, z, _⟩ => absurd z (n _)
      cases d with
      | dict kvs =>
        simp only [e] at h1
        obtain ⟨C1, fs1, e1, h1⟩ := h1
        rcases hd with hd | ⟨C2, fs2, e2, hd⟩
        · cases hd
        · rw [← e1] at e2
          obtain ⟨rfl, rfl⟩ := encOb_inj e2
          exact q L1 x H1 _ ρ1 g1 (.o I1 hd.at_) h1
      | _ =>
        simp only [e] at h1
        exact q L1 x H1 _ ρ1 g1 (.f I1 (flat fun _ z => by cases z)) h1
  | _ => exact h1.elim
abbrev WO := List Sl → (Option Int → List Sl → Prop) → Prop
structure DO (X : Cx) (e : Option Expr) (t : TO) (w : WO) : Prop where
  po : PO X e t
  ev : ∀ ρ Q, w ρ Q → ∀ (O L : List Addr) (σ : L2.St) (H : Hp), En X.K O L H σ ρ → ∀ QV : Option Int → Hp → Prop, (∀ L' o H' ρ', Go L H L' H' → En X.K O L' H' σ ρ' → Q o ρ' → QV o H') → t σ H QV
@[simp] def wNo : WO := fun ρ Q => Q none ρ
@[simp] def wSome (we : WE) : WO := fun ρ Q => we ρ fun r ρ1 => match r with
  | .fz (.int i) => Q (some i) ρ1
  | _ => False
theorem do_none : DO X none tNoPart wNo := ⟨po_none, fun ρ Q h O L σ H I QV q => q L none H ρ Go.refl I h⟩
theorem do_some {e : Expr} {te : TE} {we : WE} (he : DE X e te we) : DO X (some e) (tPart te) (wSome we) := by
  refine ⟨po_some he.pe, fun ρ Q h O L σ H I QV q => ?_⟩
  refine he.ev ρ _ h O L σ H I _ fun L1 y H1 r1 ρ1 g1 R1 h1 => ?_
  split at h1
  · obtain ⟨I1, hd⟩ := R1
    cases hd
    exact ⟨_, rfl, q L1 _ H1 ρ1 g1 I1 h1⟩
  · exact h1.elim
abbrev DSl := PyData → Option Int → Option Int → (Rs → Prop) → Prop
def LiftS (K : PySem.W.Frag) (r : V → Option Int → Option Int → Hp → VK → Prop) (rd : DSl) : Prop :=
  ∀ (M : List Addr) (H : Hp) (x : V) (d : PyData) (lo hi : Option Int) (Qd : Rs → Prop), (∀ a ∈ M, H a ≠ none) → Dp K (less H M) x d → rd d lo hi Qd →
    ∀ Q : VK, (∀ v H' q, Same H H' → VrOk K M H H' v q → Qd q → Q v H') → r x lo hi H Q
@[simp] def wSl (rd : DSl) (we : WE) (wl wh : WO) : WE := fun ρ Q => we ρ fun r ρ1 => wl ρ1 fun lo ρ2 => wh ρ2 fun hi ρ3 => match r.dat with
  | some d => rd d lo hi fun r => Q r ρ3
  | none => False
theorem de_slice {r : V → Option Int → Option Int → Hp → VK → Prop} {rd : DSl} {e : Expr} {te : TE} {we : WE} {lo hi : Option Expr} {tl th : TO} {wl wh : WO} {p2 : Pos} (hr : SlR X r) (l : LiftS X.K r rd) (he : DE X e te we) (hl : DO X lo tl wl) (hh : DO X hi th wh) :
    DE X (.Subscript e (.Slice lo hi none p2) pos) (tSl r te tl th) (wSl rd we wl wh) := by
  refine ⟨pe_slice hr he.pe hl.po hh.po, fun ρ Q h O L σ H I QV q => ?_⟩
  refine he.ev ρ _ h O L σ H I _ fun L1 y H1 r1 ρ1 g1 R1 h1 => ?_
  refine hl.ev ρ1 _ h1 O L1 σ H1 R1.en _ fun L2 a H2 ρ2 g2 I2 h2 => ?_
  refine hh.ev ρ2 _ h2 O L2 σ H2 I2 _ fun L3 b H3 ρ3 g3 I3 h3 => ?_
  cases e1 : r1.dat with
  | none => simp only [e1] at h3
  | some d =>
    simp only [e1] at h3
    exact l (O ++ L3) H3 y d a b _ I3.tr (((R1.dp e1).up g2.less).up g3.less) h3 _ fun w H4 q4 s4 ok4 hq =>
      q L3 w H4 q4 ρ3 (g1.trans (g2.trans (g3.trans (Go.same s4)))) ((VrOk.rs I3 s4 ok4).back fun p z => (g1.trans (g2.trans g3)).free z) hq
/-- what a slice picks -/
def cutP {α : Type} (xs : List α) (lo hi : Option Int) : List α := (xs.drop (HT.sIx xs.length 0 lo)).take (HT.sIx xs.length xs.length hi - HT.sIx xs.length 0 lo)
theorem dpAll_cut {K : PySem.W.Frag} {H : Hp} {vs : List V} {ds : List PyData} (h : DpAll K H vs ds) (lo hi : Option Int) : DpAll K H (cutV vs lo hi) (cutP ds lo hi) := by
  unfold cutV cutP
  rw [h.len]
  exact (h.drop _).take _
@[simp] def rdSlL : DSl := fun d lo hi Q => match d with
  | .list ds => Q (.nl (cutP ds lo hi))
  | _ => False
@[simp] def rdSlT : DSl := fun d lo hi Q => match d with
  | .tuple ds => Q (.fz (.tuple (cutP ds lo hi)))
  | _ => False
theorem lift_slL {K : PySem.W.Frag} : LiftS K (rSlL K) rdSlL := by
  intro M H x d lo hi Qd tr hd h Q q
  cases hd with
  | lst s a => exact ⟨_, _, rfl, sql_mono less_sub s, fun p hp => q _ _ _ (new_same hp) (new_lst hp (dpAll_cut a lo hi)) h⟩
  | _ => exact h.elim
theorem lift_slT {K : PySem.W.Frag} : LiftS K (rSlA K) rdSlT := by
  intro M H x d lo hi Qd tr hd h Q q
  cases hd with
  | @tup a xs ds s ha =>
    refine ⟨_, _, rfl, sqt_mono less_sub s, fun w => ?_, fun _ p hp => q _ _ (.fz (.tuple (cutP ds lo hi))) (new_same hp) (new_tup tr hp (dpAll_cut ha lo hi)) h⟩
    refine q _ H (.fz (.tuple (cutP ds lo hi))) (Same.refl H) ?_ h
    have e : cutP ds lo hi = ds := by
      unfold cutP
      rw [← ha.len, w.1, w.2, List.drop_zero, Nat.sub_zero, ha.len, List.take_length]
    rw [e]
    exact .tup s ha
  | _ => exact h.elim
end
end DC

set_option Elab.async false
set_option linter.all false
set_option maxRecDepth 100000
set_option maxHeartbeats 1000000
namespace DC
open PySem PySem.Spec PyProof.Rows L2

theorem dp_listI {K : PySem.W.Frag} {G : Hp} {v : V} {ds : List PyData} (h : Dp K G v (.list ds)) : ∃ a xs, v = .ref a ∧ SqL K G a xs ∧ DpAll K G xs ds := by
  cases h with
  | lst s a => exact ⟨_, _, rfl, s, a⟩
theorem dp_tupI {K : PySem.W.Frag} {G : Hp} {v : V} {ds : List PyData} (h : Dp K G v (.tuple ds)) : ∃ a xs, v = .ref a ∧ SqT K G a xs ∧ DpAll K G xs ds := by
  cases h with
  | tup s a => exact ⟨_, _, rfl, s, a⟩
/-! ### targets -/
abbrev WG := PyData → List Sl → (List Sl → Prop) → Prop
abbrev WGs := List PyData → List Sl → (List Sl → Prop) → Prop
structure DG (X : Cx) (tg : Expr) (g : TG) (sl : List Nat) (w : WG) : Prop where
  pg : PG X tg g
  ev : ∀ d ρ Q, w d ρ Q → ∀ (O L : List Addr) (σ : L2.St) (H : Hp) (v : V), En X.K O L H σ ρ → Dp X.K (less H (O ++ L)) v d → ∀ QV : L2.St → Hp → Prop,
    (∀ σ' ρ', En X.K O L H σ' ρ' → (∀ j, j ∉ sl → σ'[j]? = σ[j]?) → σ'.length = σ.length → Q ρ' → QV σ' H) → g v σ H QV
structure DGs (X : Cx) (ts : List Expr) (g : TGs) (sl : List Nat) (w : WGs) : Prop where
  pg : PGs X ts g
  ev : ∀ ds ρ Q, w ds ρ Q → ∀ (O L : List Addr) (σ : L2.St) (H : Hp) (vs : List V), En X.K O L H σ ρ → DpAll X.K (less H (O ++ L)) vs ds → ∀ QV : L2.St → Hp → Prop,
    (∀ σ' ρ', En X.K O L H σ' ρ' → (∀ j, j ∉ sl → σ'[j]? = σ[j]?) → σ'.length = σ.length → Q ρ' → QV σ' H) → g vs σ H QV
@[simp] def gN (i : Nat) : WG := fun d ρ Q => Q (ρ.set i (.fz d))
@[simp] def gNil' : WGs := fun ds ρ Q => ds = [] ∧ Q ρ
@[simp] def gCons' (g : WG) (r : WGs) : WGs := fun ds ρ Q => match ds with
  | d :: es => g d ρ fun ρ1 => r es ρ1 Q
  | [] => False
@[simp] def gT (n : Nat) (gs : WGs) : WG := fun d ρ Q => match d with
  | .tuple ds => ds.length = n ∧ gs ds ρ Q
  | _ => False
section
variable {X : Cx} {pos : Pos}
theorem dg_name {i : Nat} {x : Str} (hN : X.N.Nodup) (hi : X.N[i]? = some x) (hx : Loc X.env.scope x) (hf : X.fn x = true ∨ X.env.scope.names.lookup x = some .local := by first | exact .inl rfl | exact .inr rfl | assumption) : DG X (.Name x pos) (gName i) [i] (gN i) :=
  ⟨pg_name hN hi hx hf, fun d ρ Q h O L σ H v I hd QV q => q _ _ (I.setF (s := .fz d) (fun z => z) ⟨v, rfl, hd⟩) (fun j hj => List.getElem?_set_ne fun z => hj (by simp [z])) (List.length_set ..) h⟩
theorem dgs_nil : DGs X [] gNil [] gNil' := ⟨pgs_nil, fun ds ρ Q h O L σ H vs I hd QV q => by
  obtain ⟨rfl, h⟩ := h
  cases hd
  exact ⟨rfl, q σ ρ I (fun _ _ => rfl) rfl h⟩⟩
theorem dgs_cons {e : Expr} {es : List Expr} {t : TG} {u : TGs} {s1 s2 : List Nat} {w1 : WG} {w2 : WGs} (h1 : DG X e t s1 w1) (h2 : DGs X es u s2 w2) (hs : (assignEach (e :: es) X.env).map (·.2) = assign e X.env :: (assignEach es X.env).map (·.2) := by rfl) : DGs X (e :: es) (gCons t u) (s1 ++ s2) (gCons' w1 w2) := by
  refine ⟨pgs_cons h1.pg h2.pg hs, fun ds ρ Q h O L σ H vs I hd QV q => ?_⟩
  cases hd with
  | nil => exact h.elim
  | @cons v vs d ds a b =>
    refine ⟨v, vs, rfl, h1.ev d ρ _ h O L σ H v I a _ fun σ1 ρ1 I1 k1 l1 w => ?_⟩
    refine h2.ev ds ρ1 Q w O L σ1 H vs I1 b _ fun σ2 ρ2 I2 k2 l2 w2 => ?_
    exact q σ2 ρ2 I2 (fun j hj => (k2 j fun z => hj (List.mem_append_right _ z)).trans (k1 j fun z => hj (List.mem_append_left _ z))) (l2.trans l1) w2
theorem dg_tup {es : List Expr} {k : Nat} {t : TGs} {n : Nat} {s : List Nat} {w : WGs} (hc : X.calm = true) (h : DGs X es t s w) (hn : (assignEach es X.env).length = n := by rfl) (hst : (assignEach es X.env).findIdx? (·.1) = none := by rfl) : DG X (.Tuple es k pos) (gTup X.K n t) s (gT n w) := by
  refine ⟨pg_tup hc h.pg hn hst, fun d ρ Q hw O L σ H v I hd QV q => ?_⟩
  cases hd with
  | @tup a xs ds s1 a1 =>
    obtain ⟨hl, hw⟩ := hw
    exact ⟨a, xs, rfl, sqt_mono less_sub s1, a1.len.trans hl, h.ev ds ρ Q hw O L σ H xs I a1 QV q⟩
  | _ => exact hw.elim
end

/-! ### what is walked -/
abbrev WI := List Sl → (List PyData → List Sl → Prop) → Prop
def YOk (K : PySem.W.Frag) (G H H' : Hp) (x : V) (d : PyData) : Prop :=
  (H' = H ∧ Dp K G x d) ∨ ∃ p vs es, x = .ref p ∧ H p = none ∧ H' = upd H p (.tup vs) ∧ d = .tuple es ∧ DpAll K G vs es
def ItOk (K : PySem.W.Frag) (G : Hp) (J : It) (ds : List PyData) : Prop :=
  ∀ H, Same G H → ∀ i, (∀ d, ds[i]? = some d → J.go i H ∧ ∀ x H', J.yld i H x H' → YOk K G H H' x d) ∧ (ds.length ≤ i → J.stop i H)
def EvI (K : PySem.W.Frag) (wi : TI) (ρ : List Sl) (Q : List PyData → List Sl → Prop) : Prop :=
  ∀ (O L : List Addr) (σ : L2.St) (H : Hp), En K O L H σ ρ → ∀ R : It → Hp → Prop, (∀ L' J H' ds ρ', Go L H L' H' → En K O L' H' σ ρ' → ItOk K (less H' (O ++ L')) J ds → Q ds ρ' → R J H') → wi σ H R
structure DI (X : Cx) (tg iter : Expr) (wi : TI) (w : WI) : Prop where
  pi : PI X tg iter wi
  ev : ∀ ρ Q, w ρ Q → EvI X.K wi ρ Q
theorem YOk.same {K : PySem.W.Frag} {G H H' : Hp} {x : V} {d : PyData} (h : YOk K G H H' x d) : Same H H' := by
  rcases h with ⟨rfl, _⟩ | ⟨p, vs, es, _, hp, rfl, _⟩
  · exact Same.refl _
  · exact new_same hp
theorem YOk.dp {K : PySem.W.Frag} {G H H' : Hp} {M : List Addr} {x : V} {d : PyData} (tr : ∀ a ∈ M, H a ≠ none) (g : Same G (less H M)) (h : YOk K G H H' x d) : Dp K (less H' M) x d := by
  rcases h with ⟨rfl, h⟩ | ⟨p, vs, es, rfl, hp, rfl, rfl, h⟩
  · exact h.up g
  · exact new_tup tr hp (h.up g)
theorem itok_list {K : PySem.W.Frag} {G : Hp} {a : Addr} {vs : List V} {ds : List PyData} (s : SqL K G a vs) (h : DpAll K G vs ds) : ItOk K G (Itl K a) ds := fun H g i => by
  refine ⟨fun d hd => ?_, fun hl => ⟨vs, sql_mono g s, by rw [h.len]; exact hl⟩⟩
  obtain ⟨v, h1, h2⟩ := h.at_ hd
  refine ⟨⟨vs, v, sql_mono g s, h1⟩, fun x H' y => ?_⟩
  obtain ⟨rfl, y⟩ := y
  have := y vs (sql_mono g s)
  rw [h1] at this
  cases this
  exact .inl ⟨rfl, h2⟩
theorem itok_tup {K : PySem.W.Frag} {G : Hp} {a : Addr} {vs : List V} {ds : List PyData} (s : SqT K G a vs) (h : DpAll K G vs ds) : ItOk K G (Itt K a) ds := fun H g i => by
  refine ⟨fun d hd => ?_, fun hl => ⟨vs, sqt_mono g s, by rw [h.len]; exact hl⟩⟩
  obtain ⟨v, h1, h2⟩ := h.at_ hd
  refine ⟨⟨vs, v, sqt_mono g s, h1⟩, fun x H' y => ?_⟩
  obtain ⟨rfl, y⟩ := y
  have := y vs (sqt_mono g s)
  rw [h1] at this
  cases this
  exact .inl ⟨rfl, h2⟩
/-- the ints lo, lo + 1, .. -/
@[simp] def rangeD (lo : Int) (n : Nat) : List PyData := (List.range n).map fun i => .int (lo + (i : Nat))
theorem itok_range {K : PySem.W.Frag} {G : Hp} {lo : Int} {n : Nat} : ItOk K G (Itr lo n) (rangeD lo n) := fun H g i => by
  refine ⟨fun d hd => ?_, fun hl => by
    have hl' : n ≤ i := by simpa [rangeD] using hl
    exact hl'⟩
  unfold rangeD at hd
  rw [List.getElem?_map] at hd
  by_cases hi : i < n
  · rw [List.getElem?_range hi] at hd
    cases hd
    refine ⟨hi, fun x H' y => ?_⟩
    obtain ⟨rfl, rfl⟩ := y
    exact .inl ⟨rfl, .int _⟩
  · rw [List.getElem?_eq_none (by simpa using hi)] at hd
    cases hd
/-- a list or a tuple, as it comes -/
def iAny (K : PySem.W.Frag) (tl : TE) : TI := fun σ H R => tl σ H fun x H1 => ∃ a, x = .ref a ∧ (((∃ xs, SqL K H1 a xs) ∧ R (Itl K a) H1) ∨ ((∃ xs, SqT K H1 a xs) ∧ R (Itt K a) H1))
theorem pi_any {X : Cx} {tg l : Expr} {tl : TE} (hl : PE X l tl) : PI X tg l (iAny X.K tl) := by
  constructor
  intro pins s σ H R I h
  apply thn (hl.run pins s σ H _ I h)
  rintro v s1 ⟨x, H1, I1, r1, a, rfl, q⟩
  cases r1
  have fresh : ∀ b ∈ [s1.heap.objs.size], FpOk X pins H1 b := fun b hb => by
    rw [List.mem_singleton] at hb
    rw [hb]
    exact I1.fpOk (Nat.le_refl _) I1.fresh
  rcases q with ⟨⟨xs, hq⟩, q⟩ | ⟨⟨xs, hq⟩, q⟩
  · obtain ⟨its, rv, p, hz⟩ := I1.list hq
    apply wpAny_pyIter_list p.isList
    exact ⟨_, _, _, _, H1, rfl, Inv.kept (t' := s1.toks) I1 (fun b o e => Heap.get?_push_of_some _ e), turn_list a _, ⟨_, Heap.get?_push_size _ rfl, rfl, rfl⟩, fresh, q⟩
  · obtain ⟨its, rv, p, hz⟩ := I1.tuple hq
    apply wpAny_pyIter_tuple (show s1.heap.IsTuple a its.toArray from p)
    exact ⟨_, _, _, _, H1, rfl, Inv.kept (t' := s1.toks) I1 (fun b o e => Heap.get?_push_of_some _ e), turn_tuple a _, ⟨_, Heap.get?_push_size _ rfl, rfl, rfl⟩, fresh, q⟩
@[simp] def wAny (we : WE) : WI := fun ρ Q => we ρ fun r ρ1 => match r.dat with
  | some (.list ds) => Q ds ρ1
  | some (.tuple ds) => Q ds ρ1
  | _ => False
section
variable {X : Cx} {tg : Expr} {pos : Pos}
theorem di_any {e : Expr} {te : TE} {we : WE} (h : DE X e te we) : DI X tg e (iAny X.K te) (wAny we) := by
  refine ⟨pi_any h.pe, fun ρ Q w O L σ H I R q => ?_⟩
  refine h.ev ρ _ w O L σ H I _ fun L1 y H1 r1 ρ1 g1 R1 h1 => ?_
  cases e1 : r1.dat with
  | none => simp only [e1] at h1
  | some d =>
    have hd := R1.dp e1
    cases d with
    | list ds =>
      simp only [e1] at h1
      cases hd with
      | lst s a => exact ⟨_, rfl, .inl ⟨⟨_, sql_mono less_sub s⟩, q L1 _ H1 ds ρ1 g1 R1.en (itok_list s a) h1⟩⟩
    | tuple ds =>
      simp only [e1] at h1
      cases hd with
      | tup s a => exact ⟨_, rfl, .inr ⟨⟨_, sqt_mono less_sub s⟩, q L1 _ H1 ds ρ1 g1 R1.en (itok_tup s a) h1⟩⟩
    | _ => simp only [e1] at h1
@[simp] def wRange1 (wa : WA) : WI := fun ρ Q => wa ρ fun ss ρ1 => match ss with
  | [.fz (.int j)] => (-(2 ^ 62) ≤ j ∧ j < 2 ^ 62) ∧ Q (rangeD 0 j.toNat) ρ1
  | _ => False
@[simp] def wRange2 (wa : WA) : WI := fun ρ Q => wa ρ fun ss ρ1 => match ss with
  | [.fz (.int i), .fz (.int j)] => ((-(2 ^ 62) ≤ i ∧ i < 2 ^ 62) ∧ -(2 ^ 62) ≤ j ∧ j < 2 ^ 62) ∧ Q (rangeD i (j - i).toNat) ρ1
  | _ => False
theorem di_range1 {a : Expr} {ta : TA} {wa : WA} {p : Pos} (hg : Gl X "range") (hm : X.mg "range" = none) (ha : DA X [a] ta wa) (hs : starEach [a] X.env = [(false, eval a X.env)] := by rfl) : DI X tg (.Call (.Name "range" p) [a] [] pos) (iRng1 ta) (wRange1 wa) := by
  refine ⟨pi_range1 hg hm ha.pa hs, fun ρ Q w O L σ H I R q => ?_⟩
  refine ha.ev ρ _ w O L σ H I _ fun L1 vs H1 ss ρ1 g1 I1 a1 h1 => ?_
  split at h1
  · obtain ⟨⟨b1, b2⟩, h1⟩ := h1
    cases a1 with
    | cons x r =>
      cases r
      cases x
      exact ⟨_, rfl, b1, b2, q L1 _ H1 _ ρ1 g1 I1 itok_range h1⟩
  · exact h1.elim
theorem di_range2 {a b : Expr} {ta : TA} {wa : WA} {p : Pos} (hg : Gl X "range") (hm : X.mg "range" = none) (ha : DA X [a, b] ta wa) (hs : starEach [a, b] X.env = [(false, eval a X.env), (false, eval b X.env)] := by rfl) (hs2 : starEach [b] X.env = [(false, eval b X.env)] := by rfl) :
    DI X tg (.Call (.Name "range" p) [a, b] [] pos) (iRng2 ta) (wRange2 wa) := by
  refine ⟨pi_range2 hg hm ha.pa hs hs2, fun ρ Q w O L σ H I R q => ?_⟩
  refine ha.ev ρ _ w O L σ H I _ fun L1 vs H1 ss ρ1 g1 I1 a1 h1 => ?_
  split at h1
  · obtain ⟨⟨⟨b1, b2⟩, b3, b4⟩, h1⟩ := h1
    cases a1 with
    | cons x r =>
      cases r with
      | cons y r =>
        cases r
        cases x
        cases y
        exact ⟨_, _, rfl, ⟨b1, b2, b3, b4⟩, q L1 _ H1 _ ρ1 g1 I1 itok_range h1⟩
  · exact h1.elim
/-- zip of two lists, of two tuples -/
def zipD (ds es : List PyData) : List PyData := List.zipWith (fun d e => .tuple [d, e]) ds es
@[simp] def wZip (wa : WA) : WI := fun ρ Q => wa ρ fun ss ρ1 => match ss with
  | [.fz (.list ds), .fz (.list es)] => Q (zipD ds es) ρ1
  | [.fz (.tuple ds), .fz (.tuple es)] => Q (zipD ds es) ρ1
  | _ => False
theorem zipD_get {ds es : List PyData} {i : Nat} {d : PyData} (h : (zipD ds es)[i]? = some d) : ∃ a b, ds[i]? = some a ∧ es[i]? = some b ∧ d = .tuple [a, b] := by
  unfold zipD at h
  rw [List.getElem?_zipWith] at h
  cases e1 : ds[i]? with
  | none => rw [e1] at h; cases h
  | some a =>
    cases e2 : es[i]? with
    | none => rw [e1, e2] at h; cases h
    | some b =>
      rw [e1, e2] at h
      cases h
      exact ⟨a, b, rfl, rfl, rfl⟩
theorem di_zip {e e2 : Expr} {ta : TA} {wa : WA} {p tpos : Pos} {elts : List Expr} {kk : Nat} (hg : Gl X "zip") (hm : X.mg "zip" = none) (ha : DA X [e, e2] ta wa)
    (hs : starEach [e, e2] X.env = (false, eval e X.env) :: starEach [e2] X.env := by rfl) (hpl : (backTo pos (starEach [e2] X.env)).any (·.1) = false := by rfl) : DI X (.Tuple elts kk tpos) (.Call (.Name "zip" p) [e, e2] [] pos) (RZ.iZipA X.K ta) (wZip wa) := by
  refine ⟨RZ.pi_zipA hg hm ha.pa hs hpl, fun ρ Q w O L σ H I R q => ?_⟩
  refine ha.ev ρ _ w O L σ H I _ fun L1 vs H1 ss ρ1 g1 I1 a1 h1 => ?_
  split at h1
  · rename_i ds es
    cases a1 with
    | cons x r =>
      cases r with
      | cons y r =>
        cases r
        obtain ⟨a, xs, rfl, s1, d1⟩ := dp_listI x
        obtain ⟨b, ys, rfl, s2, d2⟩ := dp_listI y
        refine ⟨a, b, xs, ys, rfl, .inl ⟨sql_mono less_sub s1, sql_mono less_sub s2, q L1 _ H1 _ ρ1 g1 I1 (fun H g i => ?_) h1⟩⟩
        refine ⟨fun d hd => ?_, fun hl => ⟨xs, ys, sql_mono g s1, sql_mono g s2, ?_⟩⟩
        · obtain ⟨u, w, e1, e2, rfl⟩ := zipD_get hd
          obtain ⟨v1, k1, k2⟩ := d1.at_ e1
          obtain ⟨v2, k3, k4⟩ := d2.at_ e2
          refine ⟨⟨xs, ys, v1, v2, sql_mono g s1, sql_mono g s2, k1, k3⟩, fun x H' y => ?_⟩
          obtain ⟨T, x', y', rfl, hT, rfl, f1, f2⟩ := y
          have m1 := f1 xs (sql_mono g s1)
          have m2 := f2 ys (sql_mono g s2)
          rw [k1] at m1; cases m1
          rw [k3] at m2; cases m2
          exact .inr ⟨T, _, _, rfl, hT, rfl, rfl, .cons k2 (.cons k4 .nil)⟩
        · unfold zipD at hl
          rw [List.length_zipWith] at hl
          rw [d1.len, d2.len]
          omega
  · rename_i ds es
    cases a1 with
    | cons x r =>
      cases r with
      | cons y r =>
        cases r
        obtain ⟨a, xs, rfl, s1, d1⟩ := dp_tupI x
        obtain ⟨b, ys, rfl, s2, d2⟩ := dp_tupI y
        refine ⟨a, b, xs, ys, rfl, .inr ⟨sqt_mono less_sub s1, sqt_mono less_sub s2, q L1 _ H1 _ ρ1 g1 I1 (fun H g i => ?_) h1⟩⟩
        refine ⟨fun d hd => ?_, fun hl => ⟨xs, ys, sqt_mono g s1, sqt_mono g s2, ?_⟩⟩
        · obtain ⟨u, w, e1, e2, rfl⟩ := zipD_get hd
          obtain ⟨v1, k1, k2⟩ := d1.at_ e1
          obtain ⟨v2, k3, k4⟩ := d2.at_ e2
          refine ⟨⟨xs, ys, v1, v2, sqt_mono g s1, sqt_mono g s2, k1, k3⟩, fun x H' y => ?_⟩
          obtain ⟨T, x', y', rfl, hT, rfl, f1, f2⟩ := y
          have m1 := f1 xs (sqt_mono g s1)
          have m2 := f2 ys (sqt_mono g s2)
          rw [k1] at m1; cases m1
          rw [k3] at m2; cases m2
          exact .inr ⟨T, _, _, rfl, hT, rfl, rfl, .cons k2 (.cons k4 .nil)⟩
        · unfold zipD at hl
          rw [List.length_zipWith] at hl
          rw [d1.len, d2.len]
          omega
  · exact h1.elim
/-- enumerate(a list) -/
def enumD (ds : List PyData) : List PyData := ds.mapIdx fun i d => .tuple [.int (i : Nat), d]
@[simp] def wEnum (wa : WA) : WI := fun ρ Q => wa ρ fun ss ρ1 => match ss with
  | [.fz (.list ds)] => Q (enumD ds) ρ1
  | _ => False
theorem enumD_get {ds : List PyData} {i : Nat} {d : PyData} (h : (enumD ds)[i]? = some d) : ∃ a, ds[i]? = some a ∧ d = .tuple [.int (i : Nat), a] := by
  unfold enumD at h
  rw [List.getElem?_mapIdx] at h
  cases e1 : ds[i]? with
  | none => rw [e1] at h; cases h
  | some a => rw [e1] at h; cases h; exact ⟨a, rfl, rfl⟩
theorem di_enum {e : Expr} {ta : TA} {wa : WA} {p tpos : Pos} {elts : List Expr} {kk : Nat} (hg : Gl X "enumerate") (hm : X.mg "enumerate" = none) (ha : DA X [e] ta wa) (hs : starEach [e] X.env = [(false, eval e X.env)] := by rfl) :
    DI X (.Tuple elts kk tpos) (.Call (.Name "enumerate" p) [e] [] pos) (iEnum X.K ta) (wEnum wa) := by
  refine ⟨pi_enum hg hm ha.pa hs, fun ρ Q w O L σ H I R q => ?_⟩
  refine ha.ev ρ _ w O L σ H I _ fun L1 vs H1 ss ρ1 g1 I1 a1 h1 => ?_
  split at h1
  · rename_i ds
    cases a1 with
    | cons x r =>
      cases r
      obtain ⟨a, xs, rfl, s1, d1⟩ := dp_listI x
      refine ⟨a, xs, rfl, sql_mono less_sub s1, q L1 _ H1 _ ρ1 g1 I1 (fun H g i => ?_) h1⟩
      refine ⟨fun d hd => ?_, fun hl => ⟨xs, sql_mono g s1, ?_⟩⟩
      · obtain ⟨u, e1, rfl⟩ := enumD_get hd
        obtain ⟨v1, k1, k2⟩ := d1.at_ e1
        refine ⟨⟨xs, v1, sql_mono g s1, k1⟩, fun x H' y => ?_⟩
        obtain ⟨T, x', rfl, hT, rfl, f1⟩ := y
        have m1 := f1 xs (sql_mono g s1)
        rw [k1] at m1; cases m1
        exact .inr ⟨T, _, _, rfl, hT, rfl, rfl, .cons (.int _) (.cons k2 .nil)⟩
      · unfold enumD at hl
        rw [List.length_mapIdx] at hl
        rw [d1.len]
        omega
  · exact h1.elim
end
end DC

set_option Elab.async false
set_option linter.all false
set_option maxRecDepth 100000
set_option maxHeartbeats 1000000
namespace DC
open PySem PySem.Spec PyProof.Rows L2

/-! ### comprehensions -/
@[simp] def wipeS (ρ : List Sl) : List Nat → List Sl
  | [] => ρ
  | v :: vs => (wipeS ρ vs).set v .un
@[simp] def keepS : Option Sl → Sl
  | some (.fz d) => .fz d
  | some (.ob C fs) => .ob C fs
  | _ => .un
/-- ρ' behind a turn, the block's own names as they stood in ρ -/
@[simp] def backS (ρ ρ' : List Sl) : List Nat → List Sl
  | [] => ρ'
  | v :: vs => (backS ρ ρ' vs).set v (keepS ρ[v]?)
theorem wipeS_len (ρ : List Sl) : ∀ vs : List Nat, (wipeS ρ vs).length = ρ.length
  | [] => rfl
  | v :: vs => by unfold wipeS; rw [List.length_set, wipeS_len ρ vs]
theorem backS_len (ρ ρ' : List Sl) : ∀ vs : List Nat, (backS ρ ρ' vs).length = ρ'.length
  | [] => rfl
  | v :: vs => by unfold backS; rw [List.length_set, backS_len ρ ρ' vs]
theorem wipeS_get {ρ : List Sl} {i : Nat} {s : Sl} : ∀ {vs : List Nat}, (wipeS ρ vs)[i]? = some s → (i ∈ vs ∧ s = .un) ∨ (i ∉ vs ∧ ρ[i]? = some s)
  | [], h => .inr ⟨by simp, h⟩
  | v :: vs, h => by
    unfold wipeS at h
    by_cases hi : v = i
    · subst hi
      by_cases hv : v < (wipeS ρ vs).length
      · rw [List.getElem?_set_self hv] at h
        cases h
        exact .inl ⟨List.mem_cons_self, rfl⟩
      · rw [List.getElem?_eq_none (by simpa using hv)] at h
        cases h
    · rw [List.getElem?_set_ne hi] at h
      rcases wipeS_get h with ⟨h1, h2⟩ | ⟨h1, h2⟩
      · exact .inl ⟨List.mem_cons_of_mem _ h1, h2⟩
      · exact .inr ⟨fun z => (List.mem_cons.mp z).elim (fun e => hi e.symm) h1, h2⟩
theorem backS_get {ρ ρ' : List Sl} {i : Nat} {s : Sl} : ∀ {vs : List Nat}, (backS ρ ρ' vs)[i]? = some s → (i ∈ vs ∧ s = keepS ρ[i]?) ∨ (i ∉ vs ∧ ρ'[i]? = some s)
  | [], h => .inr ⟨by simp, h⟩
  | v :: vs, h => by
    unfold backS at h
    by_cases hi : v = i
    · subst hi
      by_cases hv : v < (backS ρ ρ' vs).length
      · rw [List.getElem?_set_self hv] at h
        cases h
        exact .inl ⟨List.mem_cons_self, rfl⟩
      · rw [List.getElem?_eq_none (by simpa using hv)] at h
        cases h
    · rw [List.getElem?_set_ne hi] at h
      rcases backS_get h with ⟨h1, h2⟩ | ⟨h1, h2⟩
      · exact .inl ⟨List.mem_cons_of_mem _ h1, h2⟩
      · exact .inr ⟨fun z => (List.mem_cons.mp z).elim (fun e => hi e.symm) h1, h2⟩
theorem wipe_out' {σ : L2.St} {i : Nat} {vs : List Nat} (h : i ∉ vs) : (wipe σ vs)[i]? = σ[i]? := wipe_out h
section
variable {K : PySem.W.Frag} {O L L' : List Addr} {H H' : Hp} {σ σ' : L2.St} {ρ ρ' : List Sl}
theorem En.wipe (I : En K O L H σ ρ) (vs : List Nat) : En K O L H (L2.wipe σ vs) (wipeS ρ vs) := by
  refine ⟨by rw [wipe_length, wipeS_len]; exact I.len, fun i s h => ?_, fun i j s t a h1 h2 o1 o2 e1 e2 => ?_, I.tr, I.dis⟩
  · rcases wipeS_get h with ⟨_, rfl⟩ | ⟨h1, h2⟩
    · exact trivial
    · rw [wipe_out h1]; exact I.at_ i s h2
  · rcases wipeS_get h1 with ⟨_, rfl⟩ | ⟨k1, k2⟩
    · exact o1.elim
    · rcases wipeS_get h2 with ⟨_, rfl⟩ | ⟨k3, k4⟩
      · exact o2.elim
      · rw [wipe_out k1] at e1
        rw [wipe_out k3] at e2
        exact I.inj i j s t a k2 k4 o1 o2 e1 e2
/-- behind a block's turn -/
theorem En.back {vs : List Nat} (I : En K O L H σ ρ) (g : Go L H L' H') (J : En K O L' H' σ' ρ') (e : ∀ j, j ∉ vs → σ'[j]? = σ[j]?) (hl : σ'.length = σ.length) : En K O L' H' σ (backS ρ ρ' vs) := by
  refine ⟨by rw [backS_len, ← hl]; exact J.len, fun i s h => ?_, fun i j s t a h1 h2 o1 o2 e1 e2 => ?_, J.tr, J.dis⟩
  · rcases backS_get h with ⟨_, rfl⟩ | ⟨h1, h2⟩
    · cases q : ρ[i]? with
      | none => exact trivial
      | some s =>
        have a := I.at_ i s q
        cases s with
        | fz d => obtain ⟨v, a1, a2⟩ := a; exact ⟨v, a1, a2.up g.less⟩
        | ob C fs => obtain ⟨v, a1, a2⟩ := a; exact ⟨v, a1, a2.up g.less⟩
        | _ => exact trivial
    · rw [← e i h1]; exact J.at_ i s h2
  · have nk : ∀ o : Option Sl, ¬ Owned (keepS o) := fun o => by
      cases o with
      | none => exact fun z => z
      | some s => cases s <;> exact fun z => z
    rcases backS_get h1 with ⟨_, rfl⟩ | ⟨k1, k2⟩
    · exact (nk _ o1).elim
    · rcases backS_get h2 with ⟨_, rfl⟩ | ⟨k3, k4⟩
      · exact (nk _ o2).elim
      · rw [← e i k1] at e1
        rw [← e j k3] at e2
        exact J.inj i j s t a k2 k4 o1 o2 e1 e2
/-- an object that is owned elsewhere changes -/
theorem En.updO {p : Addr} {o : HO} (I : En K O L H σ ρ) (hp : p ∈ O) : En K O L (upd H p o) σ ρ := by
  have ne : ∀ {a : Addr}, a ∈ L → a ≠ p := fun {a} h z => I.dis a h (by rw [z]; exact hp)
  refine ⟨I.len, fun i s h => ?_, I.inj, fun a h => ?_, I.dis⟩
  · have q := I.at_ i s h
    unfold SlOk at q ⊢
    rw [less_upd (List.mem_append_left _ hp)]
    cases s with
    | un => exact trivial
    | fz d => exact q
    | ow ds => obtain ⟨b, vs, h1, h2, h3, h4⟩ := q; exact ⟨b, vs, h1, h2, by rw [upd_ne (ne h2)]; exact h3, h4⟩
    | bw b ds => obtain ⟨vs, h1, h2, h3, h4⟩ := q; exact ⟨vs, h1, h2, by rw [upd_ne (ne h2)]; exact h3, h4⟩
    | od ds => obtain ⟨b, vs, h1, h2, h3, h4⟩ := q; exact ⟨b, vs, h1, h2, by rw [upd_ne (ne h2)]; exact h3, h4⟩
    | ob C fs => exact q
  · by_cases e : a = p
    · rw [e, upd_same]; simp
    · rw [upd_ne e]; exact I.tr a h
end
@[simp] def lcD (wg : WG) (wt : WT) (we : WE) (vs : List Nat) (Q : Rs → List Sl → Prop) : List PyData → List PyData → List Sl → Prop
  | [], acc, ρ => Q (.nl acc) ρ
  | d :: r, acc, ρ => wg d (wipeS ρ vs) fun ρ2 => wt ρ2 fun b ρ3 =>
    if b = true then we ρ3 fun x ρ4 => match x.dat with
      | some e => lcD wg wt we vs Q r (acc ++ [e]) (backS ρ ρ4 vs)
      | none => False
    else lcD wg wt we vs Q r acc (backS ρ ρ3 vs)
@[simp] def wLc (wi : WI) (wg : WG) (wt : WT) (we : WE) (vs : List Nat) : WE := fun ρ Q => wi ρ fun ds ρ1 => ds.length ≤ 1000000 ∧ lcD wg wt we vs Q ds [] ρ1
structure DTs (X : Cx) (ifs : List Expr) (tt : TT) (w : WT) : Prop where
  pts : PTs X ifs tt
  ev : ∀ ρ Q, w ρ Q → EvT X.K tt ρ Q
@[simp] def wYes : WT := fun ρ Q => Q true ρ
theorem dts_nil {X : Cx} : DTs X [] tYes wYes := ⟨pts_nil, fun ρ Q h O L σ H I QV q => q L true H ρ Go.refl I h⟩
theorem dts_one {X : Cx} {c : Expr} {t : TT} {w : WT} (h : DT X c t w) : DTs X [c] t w := ⟨pts_one h.pt, h.ev⟩
theorem ev_lc {K : PySem.W.Frag} {wi : TI} {g : TG} {tt : TT} {te : TE} {vs sl : List Nat} {wI : WI} {wg : WG} {wt : WT} {we : WE} (hi : ∀ ρ Q, wI ρ Q → EvI K wi ρ Q)
    (hg : ∀ d ρ Q, wg d ρ Q → ∀ (O L : List Addr) (σ : L2.St) (H : Hp) (v : V), En K O L H σ ρ → Dp K (less H (O ++ L)) v d → ∀ QV : L2.St → Hp → Prop,
      (∀ σ' ρ', En K O L H σ' ρ' → (∀ j, j ∉ sl → σ'[j]? = σ[j]?) → σ'.length = σ.length → Q ρ' → QV σ' H) → g v σ H QV) (hsl : ∀ j ∈ sl, j ∈ vs)
    (ht : ∀ ρ Q, wt ρ Q → EvT K tt ρ Q) (he : ∀ ρ Q, we ρ Q → Ev K te ρ Q) (ρ : List Sl) (Q : Rs → List Sl → Prop) (h : wLc wI wg wt we vs ρ Q) : Ev K (tLc wi g tt te vs) ρ Q := by
  intro O L σ H I QV q
  refine hi ρ _ h O L σ H I _ fun L1 J H1 ds ρ1 g1 I1 it ⟨hz, h1⟩ => ?_
  intro D hD
  -- the new list stands aside
  have s1 : Same H1 (upd H1 D (.lst [])) := new_same hD
  have I2 : En K (D :: O) L1 (upd H1 D (.lst [])) σ ρ1 := I1.push s1 hD (by rw [upd_same]; simp)
  have D_O : D ∉ O := fun z => I1.tr D (List.mem_append_left _ z) hD
  refine ⟨fun i m H' => ∃ L' ρ' acc accV, Go L1 H1 L' H' ∧ En K (D :: O) L' H' σ ρ' ∧ H' D = some (.lst accV) ∧ DpAll K (less H' (D :: (O ++ L'))) accV acc ∧ i ≤ ds.length ∧ acc.length ≤ i ∧ lcD wg wt we vs Q (ds.drop i) acc ρ' ∧ m = ds.length - i,
    ⟨ds.length, L1, ρ1, [], [], Go.same s1, I2, upd_same, .nil, Nat.zero_le _, Nat.le_refl _, h1, rfl⟩, ?_⟩
  rintro i m H' ⟨L', ρ', acc, accV, g2, I', hD', hA, hi', hacc, hlc, rfl⟩
  have gG : Same (less H1 (O ++ L1)) (less H' (D :: O ++ L')) := fun b o hb => by
    obtain ⟨b1, b2⟩ := less_some hb
    rw [List.mem_append] at b1
    have b3 : b ∉ L1 := fun z => b1 (.inr z)
    rw [less_out]
    · exact g2.keep b o b2 b3
    · intro z
      rcases List.mem_append.mp z with z | z
      · rcases List.mem_cons.mp z with z | z
        · rw [z, hD] at b2; cases b2
        · exact b1 (.inl z)
      · rcases g2.gr b z with z | z
        · exact b3 z
        · rw [b2] at z; cases z
  have gH : Same (less H1 (O ++ L1)) H' := fun b o hb => (less_some (gG b o hb)).2
  by_cases hlt : i < ds.length
  · obtain ⟨d, hd⟩ : ∃ d, ds[i]? = some d := ⟨ds[i], by simp [hlt]⟩
    obtain ⟨go, yld⟩ := (it H' gH i).1 d hd
    have hdr : ds.drop i = d :: ds.drop (i + 1) := by
      rw [List.drop_eq_getElem_cons hlt]
      rw [List.getElem?_eq_getElem hlt] at hd
      cases hd
      rfl
    rw [hdr] at hlc
    refine .inr ⟨go, fun H'' => ∃ L'' ρ'' acc' accV', Go L1 H1 L'' H'' ∧ En K (D :: O) L'' H'' σ ρ'' ∧ H'' D = some (.lst accV') ∧ DpAll K (less H'' (D :: (O ++ L''))) accV' acc' ∧ acc'.length ≤ i + 1 ∧ lcD wg wt we vs Q (ds.drop (i + 1)) acc' ρ'', ?_, ?_⟩
    · rintro H'' ⟨L'', ρ'', acc', accV', k1, k2, k3, k4, k5, k6⟩
      exact ⟨ds.length - (i + 1), by omega, L'', ρ'', acc', accV', k1, k2, k3, k4, hlt, k5, k6, rfl⟩
    · intro x H2 y
      have yk := yld x H2 y
      have sy := yk.same
      have Iy := (I'.grow sy).wipe vs
      have dx : Dp K (less H2 (D :: O ++ L')) x d := yk.dp I'.tr gG
      have hD2 : H2 D = some (.lst accV) := sy _ _ hD'
      unfold lcD at hlc
      refine hg d _ _ hlc (D :: O) L' (wipe σ vs) H2 x Iy dx _ fun σ2 ρ2 J2 e2 l2 q2 => ?_
      have w2 : wipe σ2 vs = wipe σ vs := by
        apply List.ext_getElem?
        intro j
        by_cases hj : j ∈ vs
        · have z : ∀ {τ : L2.St}, τ.length = σ.length → (wipe τ vs)[j]? = if j < σ.length then some none else none := fun {τ} hτ => by
            have : ∀ us : List Nat, j ∈ us → (wipe τ us)[j]? = if j < τ.length then some none else none := fun us => by
              induction us with
              | nil => intro z; cases z
              | cons u us ih =>
                intro hu
                show ((wipe τ us).set u none)[j]? = _
                by_cases huj : u = j
                · subst huj
                  by_cases hl : u < τ.length
                  · rw [List.getElem?_set_self (by rw [wipe_length]; exact hl), if_pos hl]
                  · rw [List.getElem?_eq_none (by rw [List.length_set, wipe_length]; omega), if_neg hl]
                · rw [List.getElem?_set_ne huj]
                  exact ih ((List.mem_cons.mp hu).resolve_left fun e => huj e.symm)
            rw [this vs hj, hτ]
          rw [z (l2.trans (wipe_length σ vs)), z rfl]
        · rw [wipe_out hj, wipe_out hj, e2 j fun z => hj (hsl j z), wipe_out hj]
      refine ⟨w2, ht _ _ q2 (D :: O) L' σ2 H2 J2 _ fun L3 b H3 ρ3 g3 J3 q3 => ?_⟩
      have e2' : ∀ j, j ∉ vs → σ2[j]? = σ[j]? := fun j hj => by rw [e2 j fun z => hj (hsl j z), wipe_out hj]
      have l2' : σ2.length = σ.length := l2.trans (wipe_length σ vs)
      have gy : Go L' H' L' H2 := Go.same sy
      have D_L : D ∉ L' := fun z => I'.dis D z List.mem_cons_self
      have hA2 : DpAll K (less H2 (D :: (O ++ L'))) accV acc := hA.up (less_mono sy)
      cases b with
      | true =>
        rw [if_pos rfl] at q3 ⊢
        refine he _ _ q3 (D :: O) L3 σ2 H3 J3 _ fun L4 u H4 r4 ρ4 g4 R4 q4 => ?_
        cases e4 : r4.dat with
        | none => simp only [e4] at q4
        | some w =>
          simp only [e4] at q4
          have g34 := g3.trans g4
          have hD4 : H4 D = some (.lst accV) := g34.keep D _ hD2 D_L
          have J4 : En K (D :: O) L4 H4 σ (backS ρ' ρ4 vs) := En.back (I'.grow sy) g34 R4.en e2' l2'
          have hA4 : DpAll K (less H4 (D :: (O ++ L4))) accV acc := hA2.up (Go.less (O := D :: O) g34)
          refine ⟨accV, hD4, ?_, L4, _, acc ++ [w], accV ++ [u], ?_, J4.updO List.mem_cons_self, upd_same, ?_, ?_, q4⟩
          · rw [hA.len]; exact lt_line (by omega)
          · have g5 := (g2.trans gy).trans g34
            refine ⟨fun b o hb hn => ?_, g5.gr, fun b hb => ?_⟩
            · rw [upd_ne (ne_of_none hb hD)]; exact g5.keep b o hb hn
            · by_cases e : b = D
              · rw [e, upd_same]; simp
              · rw [upd_ne e]; exact g5.st b hb
          · rw [less_upd List.mem_cons_self]
            exact hA4.app (.cons (R4.dp e4) .nil)
          · rw [List.length_append]; exact Nat.succ_le_succ hacc
      | false =>
        rw [if_neg Bool.false_ne_true] at q3 ⊢
        have hD3 : H3 D = some (.lst accV) := g3.keep D _ hD2 D_L
        exact ⟨L3, _, acc, accV, (g2.trans gy).trans g3, En.back (I'.grow sy) g3 J3 e2' l2', hD3, hA2.up (Go.less (O := D :: O) g3), Nat.le_succ_of_le hacc, q3⟩
  · have e : i = ds.length := by omega
    subst e
    rw [List.drop_length] at hlc
    refine .inl ⟨(it H' gH ds.length).2 (Nat.le_refl _), ?_⟩
    exact q L' _ H' (.nl acc) ρ' (g1.trans g2) ⟨D, accV, rfl, g1.free hD, D_O, I', hD', hA⟩ hlc
section
variable {X : Cx}
theorem de_lc {elt tg iter : Expr} {ifs : List Expr} {scope : Scope} {own : List (Str × Nat)} {pos : Pos} {wi : TI} {g : TG} {tt : TT} {te : TE} {sl : List Nat} {wI : WI} {wg : WG} {wt : WT} {we : WE} (hc : X.calm = true) (hN : X.N.Nodup) (hi : DI X tg iter wi wI) (ok : BlkOk X.N X.env.scope scope own)
    (hg : ∀ (s : Shared) (H : Hp) (C : Addr) (cl : List (Str × Addr)) (fp : List Addr), DG (X.blk s H scope (compEnvC scope cl C X.env) fp) tg g sl wg) (ht : ∀ (s : Shared) (H : Hp) (C : Addr) (cl : List (Str × Addr)) (fp : List Addr), DTs (X.blk s H scope (compEnvC scope cl C X.env) fp) ifs tt wt)
    (he : ∀ (s : Shared) (H : Hp) (C : Addr) (cl : List (Str × Addr)) (fp : List Addr), DE (X.blk s H scope (compEnvC scope cl C X.env) fp) elt te we) (hsl : ∀ j ∈ sl, j ∈ own.map (·.2) := by decide) (hs : ∀ x, foldedSetIterable iter X.env x = pure x := by intro _; rfl) :
    DE X (.ListComp elt [⟨tg, iter, ifs, 0⟩] scope pos) (tLc wi g tt te (own.map (·.2))) (wLc wI wg wt we (own.map (·.2))) :=
  ⟨pe_lc hc hN hi.pi ok (fun s H C cl fp => (hg s H C cl fp).pg) (fun s H C cl fp => (ht s H C cl fp).pts) (fun s H C cl fp => (he s H C cl fp).pe) hs,
    ev_lc hi.ev (hg X.s_0 (fun _ => none) 0 [] []).ev hsl (ht X.s_0 (fun _ => none) 0 [] []).ev (he X.s_0 (fun _ => none) 0 [] []).ev⟩
end
end DC

set_option Elab.async false
set_option linter.all false
set_option maxRecDepth 100000
set_option maxHeartbeats 1000000
namespace DC
open PySem PySem.Spec PyProof.Rows L2

/-! ### statements -/
structure DEnds where
  nx : List Sl → Prop
  rt : Rs → List Sl → Prop
  bk : List Sl → Prop := fun _ => False
  ct : List Sl → Prop := fun _ => False
abbrev WS := DEnds → List Sl → Prop
/-- L0, H0: the def's entry -/
structure Link (K : PySem.W.Frag) (O L0 : List Addr) (H0 : Hp) (D : DEnds) (E : Ends) : Prop where
  nx : ∀ L σ H ρ, Go L0 H0 L H → En K O L H σ ρ → D.nx ρ → E.nx σ H
  rt : ∀ L σ v H r ρ, Go L0 H0 L H → RsOk K O L H0 H σ ρ v r → D.rt r ρ → E.rt v H
  bk : ∀ L σ H ρ, Go L0 H0 L H → En K O L H σ ρ → D.bk ρ → E.bk σ H
  ct : ∀ L σ H ρ, Go L0 H0 L H → En K O L H σ ρ → D.ct ρ → E.ct σ H
def EvS (K : PySem.W.Frag) (ts : TS) (ρ : List Sl) (D : DEnds) : Prop :=
  ∀ (O L0 L : List Addr) (σ : L2.St) (H0 H : Hp), Go L0 H0 L H → En K O L H σ ρ → ∀ E : Ends, Link K O L0 H0 D E → ts E σ H
structure DS (X : Cx) (st : Stmt) (ts : TS) (w : WS) : Prop where
  ps : PS X st ts
  ev : ∀ ρ D, w D ρ → EvS X.K ts ρ D
structure DSs (X : Cx) (st : List Stmt) (ts : TS) (w : WS) : Prop where
  ps : PSs X st ts
  ev : ∀ ρ D, w D ρ → EvS X.K ts ρ D
@[simp] def wNext : WS := fun D ρ => D.nx ρ
@[simp] def wSeq (w u : WS) : WS := fun D ρ => w { D with nx := u D } ρ
section
variable {X : Cx} {st : Stmt} {rest : List Stmt} {t u : TS} {w wu : WS} {pos : Pos}
theorem dss_nil : DSs X [] tNext wNext := ⟨pss_nil, fun ρ D h O L0 L σ H0 H g I E l => l.nx L σ H ρ g I h⟩
theorem dss_one (h : DS X st t w) : DSs X [st] t w := ⟨pss_one h.ps, h.ev⟩
theorem dss_cons (h1 : DS X st t w) (h2 : DSs X rest u wu) : DSs X (st :: rest) (tSeq t u) (wSeq w wu) :=
  ⟨pss_cons h1.ps h2.ps, fun ρ D h O L0 L σ H0 H g I E l => h1.ev ρ _ h O L0 L σ H0 H g I _ ⟨fun L1 σ1 H1 ρ1 g1 I1 q => h2.ev ρ1 D q O L0 L1 σ1 H0 H1 g1 I1 E l, l.rt, l.bk, l.ct⟩⟩
@[simp] def wBreak : WS := fun D ρ => D.bk ρ
@[simp] def wCont : WS := fun D ρ => D.ct ρ
theorem ds_pass : DS X (.Pass pos) tNext wNext := ⟨ps_pass, fun ρ D h O L0 L σ H0 H g I E l => l.nx L σ H ρ g I h⟩
theorem ds_break : DS X (.Break pos) tBreak wBreak := ⟨ps_break, fun ρ D h O L0 L σ H0 H g I E l => l.bk L σ H ρ g I h⟩
theorem ds_continue : DS X (.Continue pos) tCont wCont := ⟨ps_continue, fun ρ D h O L0 L σ H0 H g I E l => l.ct L σ H ρ g I h⟩
@[simp] def wNever : WS := fun _ _ => False
theorem ds_never : DS X st tNever wNever := ⟨ps_never, fun ρ D h => h.elim⟩
variable {e : Expr} {te : TE} {we : WE}
@[simp] def wDrop (we : WE) : WS := fun D ρ => we ρ fun _ ρ1 => D.nx ρ1
theorem ds_expr (he : DE X e te we) (hs : swapsWith e none pos.line X.env = pure false := by rfl) : DS X (.Expr e pos) (tDrop te) (wDrop we) :=
  ⟨ps_expr he.pe hs, fun ρ D h O L0 L σ H0 H g I E l => he.ev ρ _ h O L σ H I _ fun L1 v H1 r1 ρ1 g1 R1 h1 => l.nx L1 σ H1 ρ1 (g.trans g1) R1.en h1⟩
@[simp] def wRet (we : WE) : WS := fun D ρ => we ρ D.rt
theorem ds_ret (he : DE X e te we) : DS X (.Return (some e) pos) (tRet te) (wRet we) :=
  ⟨ps_ret he.pe, fun ρ D h O L0 L σ H0 H g I E l => he.ev ρ _ h O L σ H I _ fun L1 v H1 r1 ρ1 g1 R1 h1 => l.rt L1 σ v H1 r1 ρ1 (g.trans g1) (R1.back fun p z => g.free z) h1⟩
@[simp] def wRetN : WS := fun D ρ => D.rt (.fz .none) ρ
theorem ds_retN : DS X (.Return none pos) tRetN wRetN := ⟨ps_retN, fun ρ D h O L0 L σ H0 H g I E l => l.rt L σ .non H _ ρ g (.f I .non) h⟩
/-- return of a name's own list: it is new, or it is let stay -/
@[simp] def wRetV (i : Nat) : WS := fun D ρ => match ρ[i]? with
  | some (.ow ds) => D.rt (.nl ds) (ρ.set i .un) ∧ D.rt (.fz (.list ds)) (ρ.set i (.fz (.list ds)))
  | _ => False
theorem En.give {K : PySem.W.Frag} {O L : List Addr} {H : Hp} {σ : L2.St} {ρ : List Sl} {i : Nat} {ds : List PyData} (I : En K O L H σ ρ) (h : ρ[i]? = some (.ow ds)) :
    ∃ a L' vs, σ[i]?.join = some (.ref a) ∧ a ∈ L ∧ a ∉ O ∧ En K (a :: O) L' H σ (ρ.set i .un) ∧ (∀ b ∈ L', b ∈ L) ∧ H a = some (.lst vs) ∧ DpAll K (less H (a :: (O ++ L'))) vs ds := by
  obtain ⟨a, vs, h1, h2, h3, h4⟩ := I.at_ i _ h
  have il : i < ρ.length := (List.getElem?_eq_some_iff.mp h).1
  have cg : less H (O ++ L) = less H (a :: (O ++ L.filter (· ≠ a))) := less_congr fun b => by
    simp only [List.mem_append, List.mem_cons, List.mem_filter, decide_eq_true_eq]
    constructor
    · rintro (z | z)
      · exact .inr (.inl z)
      · by_cases e : b = a
        · exact .inl e
        · exact .inr (.inr ⟨z, by simpa using e⟩)
    · rintro (rfl | z | ⟨z, _⟩)
      · exact .inr h2
      · exact .inl z
      · exact .inr z
  refine ⟨a, L.filter (· ≠ a), vs, h1, h2, I.dis a h2, ?_, fun b hb => (List.mem_filter.mp hb).1, h3, by rw [← cg]; exact h4⟩
  refine ⟨by rw [List.length_set]; exact I.len, fun j s z => ?_, fun j k s t b z1 z2 o1 o2 e1 e2 => ?_, fun b z => I.tr b ?_, fun b z w => ?_⟩
  · by_cases hj : j = i
    · subst hj
      rw [List.getElem?_set_self il] at z
      cases z
      exact trivial
    · rw [List.getElem?_set_ne (Ne.symm hj)] at z
      have q := I.at_ j s z
      have nm : ∀ {b : Addr}, Owned s → σ[j]?.join = some (.ref b) → b ∈ L → b ∈ L.filter (· ≠ a) := fun {b} o e m => List.mem_filter.mpr ⟨m, by
        have : b ≠ a := fun z' => by
          subst z'
          exact hj (I.inj j i s _ b z h o trivial e h1)
        simpa using this⟩
      unfold SlOk at q ⊢
      show SlOk K (a :: O ++ L.filter (· ≠ a)) _ H _ s
      unfold SlOk
      rw [show a :: O ++ L.filter (· ≠ a) = a :: (O ++ L.filter (· ≠ a)) from rfl, ← cg]
      cases s with
      | un => exact trivial
      | fz d => exact q
      | ow es => obtain ⟨b, us, k1, k2, k3, k4⟩ := q; exact ⟨b, us, k1, nm trivial k1 k2, k3, k4⟩
      | bw b es => obtain ⟨us, k1, k2, k3, k4⟩ := q; exact ⟨us, k1, nm trivial k1 k2, k3, k4⟩
      | od es => obtain ⟨b, us, k1, k2, k3, k4⟩ := q; exact ⟨b, us, k1, nm trivial k1 k2, k3, k4⟩
      | ob C fs => exact q
  · have back : ∀ {j : Nat} {t : Sl}, (ρ.set i .un)[j]? = some t → Owned t → ρ[j]? = some t := fun {j t} z o => by
      by_cases hj : j = i
      · subst hj
        rw [List.getElem?_set_self il] at z
        cases z
        exact o.elim
      · rw [List.getElem?_set_ne (Ne.symm hj)] at z
        exact z
    exact I.inj j k s t b (back z1 o1) (back z2 o2) o1 o2 e1 e2
  · rcases List.mem_cons.mp (show b ∈ a :: (O ++ L.filter (· ≠ a)) from z) with z | z
    · rw [z]; exact List.mem_append_right _ h2
    · rw [List.mem_append] at z ⊢
      exact z.imp id fun q => (List.mem_filter.mp q).1
  · rcases List.mem_cons.mp w with w | w
    · have := (List.mem_filter.mp z).2
      rw [w] at this
      simp at this
    · exact I.dis b (List.mem_filter.mp z).1 w
theorem ds_retV (i : Nat) {x : Str} {p2 : Pos} (hN : X.N[i]? = some x := by rfl) (hv : Vis X.env.scope x := by first | exact Or.inl rfl | exact Or.inr (Or.inl rfl) | exact Or.inr (Or.inr rfl)) (hd : (x == ("__debug__" : Str)) = false := by decide)
    (hcd : (x == ("__classdict__" : Str)) = false := by decide) : DS X (.Return (some (.Name x p2)) pos) (tRet (tVar i)) (wRetV i) := by
  refine ⟨ps_ret (pe_var hN hv hd hcd), fun ρ D h O L0 L σ H0 H g I E l => ?_⟩
  unfold wRetV at h
  split at h
  · rename_i ds e
    obtain ⟨a, L', vs, k1, k2, k3, k4, k5, k6, k7⟩ := I.give e
    refine ⟨_, join_some k1, ?_⟩
    have g' : Go L H L' H := ⟨fun _ _ z _ => z, fun c z => .inl (k5 c z), fun _ z => z⟩
    cases q : H0 a with
    | none => exact l.rt L' σ _ H (.nl ds) _ (g.trans g') ⟨a, vs, rfl, q, k3, k4, k6, k7⟩ h.1
    | some o =>
      obtain ⟨b, L2, m1, m2, m3, m4⟩ := I.freeze e
      rw [k1] at m1
      cases m1
      exact l.rt L2 σ _ H _ _ (g.trans ⟨fun _ _ z _ => z, fun c z => .inl (m3 c z), fun _ z => z⟩) (.f m2 m4) h.2
  · exact h.elim
@[simp] def wIfS (wt : WT) (w u : WS) : WS := fun D ρ => wt ρ fun b ρ1 => if b = true then w D ρ1 else u D ρ1
theorem ds_if {c : Expr} {a b : List Stmt} {tc : TT} {wt : WT} (hc : DT X c tc wt) (ha : DSs X a t w) (hb : DSs X b u wu) : DS X (.If c a b pos) (tIfS tc t u) (wIfS wt w wu) := by
  refine ⟨ps_if hc.pt ha.ps hb.ps, fun ρ D h O L0 L σ H0 H g I E l => ?_⟩
  refine hc.ev ρ _ h O L σ H I _ fun L1 k H1 ρ1 g1 I1 h1 => ?_
  cases k with
  | true =>
    rw [if_pos rfl] at h1 ⊢
    exact ha.ev ρ1 D h1 O L0 L1 σ H0 H1 (g.trans g1) I1 E l
  | false =>
    rw [if_neg Bool.false_ne_true] at h1 ⊢
    exact hb.ev ρ1 D h1 O L0 L1 σ H0 H1 (g.trans g1) I1 E l
/-! ### stores -/
@[simp] def Rs.sl : Rs → Sl
  | .fz d => .fz d
  | .nl ds => .ow ds
  | .nd kvs => .od kvs
  | .ob C fs => .ob C fs
theorem RsOk.set {K : PySem.W.Frag} {O L : List Addr} {H0 H : Hp} {σ : L2.St} {ρ : List Sl} {v : V} {r : Rs} (i : Nat) (h : RsOk K O L H0 H σ ρ v r) : ∃ L', En K O L' H (σ.set i (some v)) (ρ.set i r.sl) ∧ (∀ a ∈ L', a ∈ L ∨ H0 a = none) := by
  cases r with
  | fz d => exact ⟨L, h.1.setF (s := .fz d) (fun z => z) ⟨v, rfl, h.2⟩, fun a z => .inl z⟩
  | nl ds =>
    obtain ⟨p, vs, rfl, h1, h2, h3, h4, h5⟩ := h
    exact ⟨p :: L, h3.setO h2 (s := .ow ds) ⟨p, vs, rfl, List.mem_cons_self, h4, h5⟩, fun a z => (List.mem_cons.mp z).elim (fun e => .inr (by rw [e]; exact h1)) .inl⟩
  | nd ds =>
    obtain ⟨p, vs, rfl, h1, h2, h3, h4, h5⟩ := h
    exact ⟨p :: L, h3.setO h2 (s := .od ds) ⟨p, vs, rfl, List.mem_cons_self, h4, h5⟩, fun a z => (List.mem_cons.mp z).elim (fun e => .inr (by rw [e]; exact h1)) .inl⟩
  | ob C fs => exact ⟨L, h.1.setF (s := .ob C fs) (fun z => z) ⟨v, rfl, h.2⟩, fun a z => .inl z⟩
@[simp] def wSet (i : Nat) (we : WE) : WS := fun D ρ => we ρ fun r ρ1 => D.nx (ρ1.set i r.sl)
theorem ev_set {K : PySem.W.Frag} (i : Nat) (hev : ∀ ρ Q, we ρ Q → Ev K te ρ Q) (ρ : List Sl) (D : DEnds) (h : wSet i we D ρ) : EvS K (tAsg te (gName i)) ρ D := by
  intro O L0 L σ H0 H g I E l
  refine hev ρ _ h O L σ H I _ fun L1 v H1 r1 ρ1 g1 R1 h1 => ?_
  obtain ⟨L', I', s⟩ := R1.set i
  exact l.nx L' _ H1 _ (g.trans ⟨g1.keep, fun a z => (s a z).elim (g1.gr a) .inr, g1.st⟩) I' h1
theorem ds_set {i : Nat} {x : Str} {pos' : Pos} (hN : X.N.Nodup) (hi : X.N[i]? = some x) (hx : Loc X.env.scope x) (he : DE X e te we) (hs : swapsWith e (some (.Name x pos')) pos.line X.env = pure false := by rfl) (hf : X.fn x = true ∨ X.env.scope.names.lookup x = some .local := by first | exact .inl rfl | exact .inr rfl | assumption) :
    DS X (.Assign [.Name x pos'] e pos) (tAsg te (gName i)) (wSet i we) := ⟨ps_set hN hi hx he.pe hs hf, ev_set i he.ev⟩
theorem ds_setLc {i : Nat} {y : Str} {py : Pos} {elt tg iter : Expr} {ifs : List Expr} {scope : Scope} {own : List (Str × Nat)} {spos : Pos} {wi : TI} {g : TG} {tt : TT} {te : TE} {sl : List Nat} {wI : WI} {wg : WG} {wt : WT} {we : WE} (hc : X.calm = true) (hN : X.N.Nodup)
    (hy : X.N[i]? = some y) (hyl : X.env.scope.names.lookup y = some .local) (hsw : swapsWith (.ListComp elt [⟨tg, iter, ifs, 0⟩] scope pos) (some (.Name y py)) spos.line X.env = pure true) (hi : DI X tg iter wi wI) (ok : BlkOk X.N X.env.scope scope own)
    (hg : ∀ (s : Shared) (H : Hp) (C : Addr) (cl : List (Str × Addr)) (fp : List Addr), DG (X.blk s H scope (compEnvC scope cl C X.env) fp) tg g sl wg) (ht : ∀ (s : Shared) (H : Hp) (C : Addr) (cl : List (Str × Addr)) (fp : List Addr), DTs (X.blk s H scope (compEnvC scope cl C X.env) fp) ifs tt wt)
    (he : ∀ (s : Shared) (H : Hp) (C : Addr) (cl : List (Str × Addr)) (fp : List Addr), DE (X.blk s H scope (compEnvC scope cl C X.env) fp) elt te we) (hsl : ∀ j ∈ sl, j ∈ own.map (·.2) := by decide) (hs : ∀ x, foldedSetIterable iter X.env x = pure x := by intro _; rfl) :
    DS X (.Assign [.Name y py] (.ListComp elt [⟨tg, iter, ifs, 0⟩] scope pos) spos) (tAsg (tLc wi g tt te (own.map (·.2))) (gName i)) (wSet i (wLc wI wg wt we (own.map (·.2)))) :=
  ⟨ps_setLc hc hN hy hyl hsw hi.pi ok (fun s H C cl fp => (hg s H C cl fp).pg) (fun s H C cl fp => (ht s H C cl fp).pts) (fun s H C cl fp => (he s H C cl fp).pe) hs,
    ev_set i (ev_lc hi.ev (hg X.s_0 (fun _ => none) 0 [] []).ev hsl (ht X.s_0 (fun _ => none) 0 [] []).ev (he X.s_0 (fun _ => none) 0 [] []).ev)⟩
/-- a, b = a pair -/
@[simp] def wAsgG (we : WE) (wg : WG) : WS := fun D ρ => we ρ fun r ρ1 => match r.dat with
  | some d => wg d ρ1 D.nx
  | none => False
theorem ds_asg {tg : Expr} {g : TG} {sl : List Nat} {wg : WG} (he : DE X e te we) (hg : DG X tg g sl wg) (hs : swapsWithSole [tg] e pos.line X.env = pure false := by rfl) (hw : swappedStores [tg] e X.env = pure none := by rfl)
    (h1 : (assignEach [tg] X.env).map (·.2) = [assign tg X.env] := by rfl) : DS X (.Assign [tg] e pos) (tAsg te g) (wAsgG we wg) := by
  refine ⟨ps_asg he.pe hg.pg hs hw h1, fun ρ D h O L0 L σ H0 H g I E l => ?_⟩
  refine he.ev ρ _ h O L σ H I _ fun L1 v H1 r1 ρ1 g1 R1 h1 => ?_
  cases e1 : r1.dat with
  | none => simp only [e1] at h1
  | some d =>
    simp only [e1] at h1
    exact hg.ev d ρ1 _ h1 O L1 σ H1 v R1.en (R1.dp e1) _ fun σ' ρ' I' _ _ q => l.nx L1 σ' H1 ρ' (g.trans g1) I' q
@[simp] def wAug (i : Nat) (rd : D2) (we : WE) : WS := fun D ρ => (∃ d, ρ[i]? = some (.fz d)) ∧ we ρ fun r ρ1 => match r.dat, ρ1[i]? with
  | some e, some (.fz d) => rd d e fun q => D.nx (ρ1.set i q.sl)
  | _, _ => False
theorem ds_aug {i : Nat} {x : Str} {op : Operator} {r : R2} {rd : D2} {pos' : Pos} (hN : X.N.Nodup) (hi : X.N[i]? = some x) (hx : Loc X.env.scope x) (ho : OpR X (inplaceOp op) r) (lf : Lift2 X.K r rd) (he : DE X e te we)
    (hf : X.fn x = true ∨ X.env.scope.names.lookup x = some .local := by first | exact .inl rfl | exact .inr rfl | assumption) : DS X (.AugAssign (.Name x pos') op e pos) (tAug i te r) (wAug i rd we) := by
  refine ⟨ps_aug hN hi hx he.pe ho hf, fun ρ D ⟨⟨d0, h0⟩, h⟩ O L0 L σ H0 H g I E l => ?_⟩
  obtain ⟨v0, w1, w2⟩ := I.at_ i _ h0
  refine ⟨v0, join_some w1, he.ev ρ _ h O L σ H I _ fun L1 y H1 r1 ρ1 g1 R1 h1 => ?_⟩
  cases e1 : r1.dat with
  | none => simp only [e1] at h1
  | some e' =>
    simp only [e1] at h1
    split at h1
    · rename_i e2 d _ e3
      cases ‹some e' = some e2›
      obtain ⟨v1, k1, k2⟩ := R1.en.at_ i _ e3
      rw [w1] at k1
      cases k1
      refine lf (O ++ L1) H1 v0 y d _ _ R1.en.tr k2 (R1.dp e1) h1 _ fun w H3 q3 s3 ok3 hq => ?_
      obtain ⟨L', I', s⟩ := (VrOk.rs R1.en s3 ok3).set i
      have g3 : Go L H L1 H3 := g1.trans (Go.same s3)
      exact l.nx L' _ H3 _ (g.trans ⟨g3.keep, fun a z => (s a z).elim (g3.gr a) fun q => .inr (g1.free q), g3.st⟩) I' hq
    · exact h1.elim
/-! ### several values at once -/
inductive Pn (K : PySem.W.Frag) (G H H0 : Hp) : List Addr → List V → List Rs → Prop
  | nil : Pn K G H H0 [] [] []
  | fz {ps vs rs v d} : Dp K G v d → Pn K G H H0 ps vs rs → Pn K G H H0 ps (v :: vs) (.fz d :: rs)
  | ob {ps vs rs v C fs} : ObAt K G v C fs → Pn K G H H0 ps vs rs → Pn K G H H0 ps (v :: vs) (.ob C fs :: rs)
  | nl {ps vs rs p us ds} : H0 p = none → H p = some (.lst us) → DpAll K G us ds → Pn K G H H0 ps vs rs → Pn K G H H0 (p :: ps) (.ref p :: vs) (.nl ds :: rs)
  | nd {ps vs rs p us ds} : H0 p = none → H p = some (.dK us) → KvAll K G us ds → Pn K G H H0 ps vs rs → Pn K G H H0 (p :: ps) (.ref p :: vs) (.nd ds :: rs)
abbrev WR := List Sl → (List Rs → List Sl → Prop) → Prop
def EvR (K : PySem.W.Frag) (ta : TA) (ρ : List Sl) (Q : List Rs → List Sl → Prop) : Prop :=
  ∀ (O L : List Addr) (σ : L2.St) (H : Hp), En K O L H σ ρ → ∀ QV : List V → Hp → Prop,
    (∀ L' vs H' ps rs ρ', Go L H L' H' → En K (ps ++ O) L' H' σ ρ' → ps.Nodup → (∀ p ∈ ps, p ∉ O) → Pn K (less H' (ps ++ O ++ L')) H' H ps vs rs → Q rs ρ' → QV vs H') → ta σ H QV
structure DR (X : Cx) (es : List Expr) (ta : TA) (w : WR) : Prop where
  pa : PA X es ta
  ev : ∀ ρ Q, w ρ Q → EvR X.K ta ρ Q
@[simp] def wRNil : WR := fun ρ Q => Q [] ρ
@[simp] def wRCons (we : WE) (wr : WR) : WR := fun ρ Q => we ρ fun r ρ1 => wr ρ1 fun rs ρ2 => Q (r :: rs) ρ2
theorem dr_nil : DR X [] tNil wRNil := ⟨pa_nil, fun ρ Q h O L σ H I QV q => q L [] H [] [] ρ Go.refl I .nil (fun _ z => nomatch z) .nil h⟩
theorem Pn.back {K : PySem.W.Frag} {G H H0 H1 : Hp} (e : ∀ p, H1 p = none → H0 p = none) : ∀ {ps : List Addr} {vs : List V} {rs : List Rs}, Pn K G H H1 ps vs rs → Pn K G H H0 ps vs rs
  | _, _, _, .nil => .nil
  | _, _, _, .fz a b => .fz a (b.back e)
  | _, _, _, .ob a b => .ob a (b.back e)
  | _, _, _, .nl a b c d => .nl (e _ a) b c (d.back e)
  | _, _, _, .nd a b c d => .nd (e _ a) b c (d.back e)
theorem Pn.cong {K : PySem.W.Frag} {G G' H H0 : Hp} (e : Same G G') : ∀ {ps : List Addr} {vs : List V} {rs : List Rs}, Pn K G H H0 ps vs rs → Pn K G' H H0 ps vs rs
  | _, _, _, .nil => .nil
  | _, _, _, .fz a b => .fz (a.up e) (b.cong e)
  | _, _, _, .ob a b => .ob (a.up e) (b.cong e)
  | _, _, _, .nl a b c d => .nl a b (c.up e) (d.cong e)
  | _, _, _, .nd a b c d => .nd a b (c.up e) (d.cong e)
theorem En.perm {K : PySem.W.Frag} {O O' L : List Addr} {H : Hp} {σ : L2.St} {ρ : List Sl} (I : En K O L H σ ρ) (e : ∀ a, a ∈ O' ↔ a ∈ O) : En K O' L H σ ρ := by
  refine I.sub fun a z => (e a).mp z
theorem Pn.tr {K : PySem.W.Frag} {G H H0 : Hp} : ∀ {ps : List Addr} {vs : List V} {rs : List Rs}, Pn K G H H0 ps vs rs → ∀ p ∈ ps, H p ≠ none ∧ H0 p = none
  | _, _, _, .fz _ b, p, h => b.tr p h
  | _, _, _, .ob _ b, p, h => b.tr p h
  | _, _, _, .nl a b _ d, p, h => (List.mem_cons.mp h).elim (fun e => by rw [e]; exact ⟨by rw [b]; simp, a⟩) (d.tr p)
  | _, _, _, .nd a b _ d, p, h => (List.mem_cons.mp h).elim (fun e => by rw [e]; exact ⟨by rw [b]; simp, a⟩) (d.tr p)
theorem dr_cons {es : List Expr} {ta : TA} {wr : WR} (ha : DE X e te we) (hr : DR X es ta wr) (hs : starEach (e :: es) X.env = (false, eval e X.env) :: starEach es X.env := by rfl) : DR X (e :: es) (tCons te ta) (wRCons we wr) := by
  refine ⟨pa_cons ha.pe hr.pa hs, fun ρ Q h O L σ H I QV q => ?_⟩
  refine ha.ev ρ _ h O L σ H I _ fun L1 v H1 r1 ρ1 g1 R1 h1 => ?_
  cases r1 with
  | fz d =>
    obtain ⟨I1, hd⟩ := R1
    refine hr.ev ρ1 _ h1 O L1 σ H1 I1 _ fun L2 vs H2 ps rs ρ2 g2 I2 nd no pn h2 => ?_
    refine q L2 _ H2 ps _ ρ2 (g1.trans g2) I2 nd no (.fz (hd.up ?_) (pn.back fun p z => g1.free z)) h2
    intro b o z
    have z1 := g2.less (O := O) b o z
    rw [List.append_assoc]
    obtain ⟨z2, z3⟩ := less_some z1
    rw [less_out]
    · exact z3
    · intro w
      rcases List.mem_append.mp w with w | w
      · have := (pn.tr b w).2
        rw [(less_some z).2] at this; cases this
      · exact z2 w
  | ob C fs =>
    obtain ⟨I1, hd⟩ := R1
    refine hr.ev ρ1 _ h1 O L1 σ H1 I1 _ fun L2 vs H2 ps rs ρ2 g2 I2 nd no pn h2 => ?_
    refine q L2 _ H2 ps _ ρ2 (g1.trans g2) I2 nd no (.ob (hd.up ?_) (pn.back fun p z => g1.free z)) h2
    intro b o z
    have z1 := g2.less (O := O) b o z
    rw [List.append_assoc]
    obtain ⟨z2, z3⟩ := less_some z1
    rw [less_out]
    · exact z3
    · intro w
      rcases List.mem_append.mp w with w | w
      · have := (pn.tr b w).2
        rw [(less_some z).2] at this; cases this
      · exact z2 w
  | nl ds =>
    obtain ⟨p, us, rfl, f1, f2, I1, f4, f5⟩ := R1
    refine hr.ev ρ1 _ h1 (p :: O) L1 σ H1 I1 _ fun L2 vs H2 ps rs ρ2 g2 I2 nd no pn h2 => ?_
    have pp : p ∉ ps := fun z => no p z List.mem_cons_self
    have pL : p ∉ L1 := fun z => I1.dis p z List.mem_cons_self
    have mm : ∀ a, a ∈ p :: ps ++ O ↔ a ∈ ps ++ p :: O := fun a => by simp only [List.cons_append, List.mem_cons, List.mem_append]; constructor <;> (rintro (z | z | z) <;> simp [z])
    have cg : less H2 (ps ++ p :: O ++ L2) = less H2 (p :: ps ++ O ++ L2) := less_congr fun a => by
      rw [List.mem_append, List.mem_append (s := p :: ps ++ O), mm a]
    refine q L2 _ H2 (p :: ps) _ ρ2 (g1.trans g2) (I2.perm mm) (List.nodup_cons.mpr ⟨pp, nd⟩) (fun a z => ?_) (.nl f1 (g2.keep p _ f4 pL) (f5.up ?_) ((pn.back fun a z => g1.free z).cong fun b o z => by rw [← cg]; exact z)) h2
    · rcases List.mem_cons.mp z with z | z
      · rw [z]; exact f2
      · exact fun w => no a z (List.mem_cons_of_mem _ w)
    · intro b o z
      have z1 := g2.less (O := p :: O) b o z
      obtain ⟨z2, z3⟩ := less_some z1
      rw [← cg, List.append_assoc, less_out]
      · exact z3
      · intro w
        rcases List.mem_append.mp w with w | w
        · have := (pn.tr b w).2
          rw [(less_some z).2] at this; cases this
        · exact z2 w
  | nd ds =>
    obtain ⟨p, us, rfl, f1, f2, I1, f4, f5⟩ := R1
    refine hr.ev ρ1 _ h1 (p :: O) L1 σ H1 I1 _ fun L2 vs H2 ps rs ρ2 g2 I2 nd no pn h2 => ?_
    have pp : p ∉ ps := fun z => no p z List.mem_cons_self
    have pL : p ∉ L1 := fun z => I1.dis p z List.mem_cons_self
    have mm : ∀ a, a ∈ p :: ps ++ O ↔ a ∈ ps ++ p :: O := fun a => by simp only [List.cons_append, List.mem_cons, List.mem_append]; constructor <;> (rintro (z | z | z) <;> simp [z])
    have cg : less H2 (ps ++ p :: O ++ L2) = less H2 (p :: ps ++ O ++ L2) := less_congr fun a => by
      rw [List.mem_append, List.mem_append (s := p :: ps ++ O), mm a]
    refine q L2 _ H2 (p :: ps) _ ρ2 (g1.trans g2) (I2.perm mm) (List.nodup_cons.mpr ⟨pp, nd⟩) (fun a z => ?_) (.nd f1 (g2.keep p _ f4 pL) (f5.up ?_) ((pn.back fun a z => g1.free z).cong fun b o z => by rw [← cg]; exact z)) h2
    · rcases List.mem_cons.mp z with z | z
      · rw [z]; exact f2
      · exact fun w => no a z (List.mem_cons_of_mem _ w)
    · intro b o z
      have z1 := g2.less (O := p :: O) b o z
      obtain ⟨z2, z3⟩ := less_some z1
      rw [← cg, List.append_assoc, less_out]
      · exact z3
      · intro w
        rcases List.mem_append.mp w with w | w
        · have := (pn.tr b w).2
          rw [(less_some z).2] at this; cases this
        · exact z2 w
/-- one after another into the slots -/
def setsV (σ : L2.St) : List Nat → List V → L2.St
  | i :: is, v :: vs => setsV (σ.set i (some v)) is vs
  | _, _ => σ
@[simp] def setsR (ρ : List Sl) : List Nat → List Rs → List Sl
  | i :: is, r :: rs => setsR (ρ.set i r.sl) is rs
  | _, _ => ρ
theorem En.sets {K : PySem.W.Frag} {O : List Addr} {H H0 : Hp} : ∀ {is : List Nat} {L ps : List Addr} {σ : L2.St} {ρ : List Sl} {vs : List V} {rs : List Rs}, is.length = vs.length → En K (ps ++ O) L H σ ρ → ps.Nodup → (∀ p ∈ ps, p ∉ O) → Pn K (less H (ps ++ O ++ L)) H H0 ps vs rs →
    ∃ L', En K O L' H (setsV σ is vs) (setsR ρ is rs) ∧ ∀ a ∈ L', a ∈ L ∨ H0 a = none
  | [], L, ps, σ, ρ, vs, rs, hl, I, nd, no, pn => by
    cases vs with
    | cons => cases hl
    | nil =>
      cases pn
      exact ⟨L, I, fun a z => .inl z⟩
  | i :: is, L, ps, σ, ρ, vs, rs, hl, I, nd, no, pn => by
    cases pn with
    | nil => cases hl
    | fz a b =>
      exact En.sets (is := is) (by simpa using hl) (I.setF (i := i) (s := .fz _) (fun z => z) ⟨_, rfl, a⟩) nd no b
    | ob a b =>
      exact En.sets (is := is) (by simpa using hl) (I.setF (i := i) (s := .ob _ _) (fun z => z) ⟨_, rfl, a⟩) nd no b
    | @nl ps vs rs p us ds a b c d =>
      have np := (List.nodup_cons.mp nd)
      have I1 : En K (ps ++ O) (p :: L) H (σ.set i (some (.ref p))) (ρ.set i (.ow ds)) := En.setO (O := ps ++ O) I (fun z => (List.mem_append.mp z).elim np.1 (no p List.mem_cons_self)) (s := .ow ds) ⟨p, us, rfl, List.mem_cons_self, b, c⟩
      have cg : less H (p :: ps ++ O ++ L) = less H (ps ++ O ++ p :: L) := less_congr fun x => by
        simp only [List.cons_append, List.mem_cons, List.mem_append]
        constructor
        · rintro (z | (z | z) | z) <;> simp [z]
        · rintro ((z | z) | z | z) <;> simp [z]
      obtain ⟨L', I', s⟩ := En.sets (is := is) (by simpa using hl) I1 np.2 (fun q z => no q (List.mem_cons_of_mem _ z)) (by rw [← cg]; exact d)
      exact ⟨L', I', fun x z => (s x z).elim (fun w => (List.mem_cons.mp w).elim (fun e => .inr (by rw [e]; exact a)) .inl) .inr⟩
    | @nd ps vs rs p us ds a b c d =>
      have np := (List.nodup_cons.mp nd)
      have I1 : En K (ps ++ O) (p :: L) H (σ.set i (some (.ref p))) (ρ.set i (.od ds)) := En.setO (O := ps ++ O) I (fun z => (List.mem_append.mp z).elim np.1 (no p List.mem_cons_self)) (s := .od ds) ⟨p, us, rfl, List.mem_cons_self, b, c⟩
      have cg : less H (p :: ps ++ O ++ L) = less H (ps ++ O ++ p :: L) := less_congr fun x => by
        simp only [List.cons_append, List.mem_cons, List.mem_append]
        constructor
        · rintro (z | (z | z) | z) <;> simp [z]
        · rintro ((z | z) | z | z) <;> simp [z]
      obtain ⟨L', I', s⟩ := En.sets (is := is) (by simpa using hl) I1 np.2 (fun q z => no q (List.mem_cons_of_mem _ z)) (by rw [← cg]; exact d)
      exact ⟨L', I', fun x z => (s x z).elim (fun w => (List.mem_cons.mp w).elim (fun e => .inr (by rw [e]; exact a)) .inl) .inr⟩
@[simp] def wPar (is : List Nat) (wr : WR) : WS := fun D ρ => wr ρ fun rs ρ1 => rs.length = is.length ∧ D.nx (setsR ρ1 is rs)
theorem Pn.len {K : PySem.W.Frag} {G H H0 : Hp} : ∀ {ps : List Addr} {vs : List V} {rs : List Rs}, Pn K G H H0 ps vs rs → vs.length = rs.length
  | _, _, _, .nil => rfl
  | _, _, _, .fz _ b => congrArg Nat.succ b.len
  | _, _, _, .ob _ b => congrArg Nat.succ b.len
  | _, _, _, .nl _ _ _ d => congrArg Nat.succ d.len
  | _, _, _, .nd _ _ _ d => congrArg Nat.succ d.len
theorem ds_par {i j : Nat} {x y : Str} {a b : Expr} {ta : TA} {wr : WR} {px py pt : Pos} {kt k2 pt2} (hc : X.calm = true) (hN : X.N.Nodup) (hi : X.N[i]? = some x) (hj : X.N[j]? = some y) (hij : i ≠ j) (hx : X.env.scope.names.lookup x = some .local) (hy : X.env.scope.names.lookup y = some .local)
    (ha : DR X [a, b] ta wr) (hw : swappedStores [.Tuple [.Name x px, .Name y py] kt pt] (.Tuple [a, b] k2 pt2) X.env = pure (some [x, y])) (hs : swapsWithSole [.Tuple [.Name x px, .Name y py] kt pt] (.Tuple [a, b] k2 pt2) pos.line X.env = pure false := by rfl) :
    DS X (.Assign [.Tuple [.Name x px, .Name y py] kt pt] (.Tuple [a, b] k2 pt2) pos) (tPar i j ta) (wPar [i, j] wr) := by
  refine ⟨ps_par hc hN hi hj hij hx hy ha.pa hw hs, fun ρ D h O L0 L σ H0 H g I E l => ?_⟩
  refine ha.ev ρ _ h O L σ H I _ fun L1 vs H1 ps rs ρ1 g1 I1 nd no pn ⟨hl, h1⟩ => ?_
  have hv := pn.len.trans hl
  obtain ⟨L', I', s⟩ := En.sets (is := [i, j]) hv.symm I1 nd no pn
  match vs, hv with
  | [v, u], _ => exact ⟨v, u, rfl, l.nx L' _ H1 _ (g.trans ⟨g1.keep, fun a z => (s a z).elim (g1.gr a) .inr, g1.st⟩) I' h1⟩
theorem ds_par3 {i j k : Nat} {x y z : Str} {a b c : Expr} {ta : TA} {wr : WR} {px py pz pt : Pos} {kt k2 pt2} (hc : X.calm = true) (hN : X.N.Nodup) (hi : X.N[i]? = some x) (hj : X.N[j]? = some y) (hk : X.N[k]? = some z) (hij : i ≠ j) (hik : i ≠ k) (hjk : j ≠ k)
    (hx : X.env.scope.names.lookup x = some .local) (hy : X.env.scope.names.lookup y = some .local) (hz : X.env.scope.names.lookup z = some .local) (ha : DR X [a, b, c] ta wr) (hw : swappedStores [.Tuple [.Name x px, .Name y py, .Name z pz] kt pt] (.Tuple [a, b, c] k2 pt2) X.env = pure (some [x, y, z]))
    (hs : swapsWithSole [.Tuple [.Name x px, .Name y py, .Name z pz] kt pt] (.Tuple [a, b, c] k2 pt2) pos.line X.env = pure false := by rfl) :
    DS X (.Assign [.Tuple [.Name x px, .Name y py, .Name z pz] kt pt] (.Tuple [a, b, c] k2 pt2) pos) (tPar3 i j k ta) (wPar [i, j, k] wr) := by
  refine ⟨ps_par3 hc hN hi hj hk hij hik hjk hx hy hz ha.pa hw hs, fun ρ D h O L0 L σ H0 H g I E l => ?_⟩
  refine ha.ev ρ _ h O L σ H I _ fun L1 vs H1 ps rs ρ1 g1 I1 nd no pn ⟨hl, h1⟩ => ?_
  have hv := pn.len.trans hl
  obtain ⟨L', I', s⟩ := En.sets (is := [i, j, k]) hv.symm I1 nd no pn
  match vs, hv with
  | [v, u, t], _ => exact ⟨v, u, t, rfl, l.nx L' _ H1 _ (g.trans ⟨g1.keep, fun a z => (s a z).elim (g1.gr a) .inr, g1.st⟩) I' h1⟩
end
end DC

set_option Elab.async false
set_option linter.all false
set_option maxRecDepth 100000
set_option maxHeartbeats 1000000
namespace DC
open PySem PySem.Spec PyProof.Rows L2

theorem Link.shift {K : PySem.W.Frag} {O L0 L1 : List Addr} {H0 H1 : Hp} {D : DEnds} {E : Ends} (l : Link K O L0 H0 D E) (g : Go L0 H0 L1 H1) : Link K O L1 H1 D E :=
  ⟨fun L σ H ρ g1 I h => l.nx L σ H ρ (g.trans g1) I h, fun L σ v H r ρ g1 I h => l.rt L σ v H r ρ (g.trans g1) (I.back fun p z => g.free z) h,
    fun L σ H ρ g1 I h => l.bk L σ H ρ (g.trans g1) I h, fun L σ H ρ g1 I h => l.ct L σ H ρ (g.trans g1) I h⟩
/-! ### loops -/
@[simp] def forD (wg : WG) (wb : WS) (D : DEnds) : List PyData → List Sl → Prop
  | [], ρ => D.nx ρ
  | d :: r, ρ => wg d ρ fun ρ2 => wb ⟨forD wg wb D r, D.rt, D.nx, forD wg wb D r⟩ ρ2
@[simp] def wFor (wi : WI) (wg : WG) (wb : WS) : WS := fun D ρ => wi ρ fun ds ρ1 => forD wg wb D ds ρ1
/-- by an invariant of the turn -/
theorem forD_inv {wg : WG} {wb : WS} {D : DEnds} {ds : List PyData} {ρ : List Sl} (I : Nat → List Sl → Prop) (h0 : I 0 ρ) (hs : ∀ i d ρ, ds[i]? = some d → I i ρ → ∀ N : List Sl → Prop, (∀ ρ', I (i + 1) ρ' → N ρ') → wg d ρ fun ρ2 => wb ⟨N, D.rt, D.nx, N⟩ ρ2)
    (hd : ∀ ρ, I ds.length ρ → D.nx ρ) : forD wg wb D ds ρ := by
  have key : ∀ (es : List PyData) (i : Nat) (ρ : List Sl), ds.drop i = es → i ≤ ds.length → I i ρ → forD wg wb D es ρ := by
    intro es
    induction es with
    | nil =>
      intro i ρ e hi h
      have : i = ds.length := by
        have := congrArg List.length e
        rw [List.length_drop] at this
        simp at this
        omega
      subst this
      exact hd ρ h
    | cons d r ih =>
      intro i ρ e hi h
      have hl : i < ds.length := by
        have := congrArg List.length e
        rw [List.length_drop] at this
        simp at this
        omega
      rw [List.drop_eq_getElem_cons hl] at e
      have e1 := (List.cons.inj e).1
      have e2 := (List.cons.inj e).2
      exact hs i d ρ (by rw [List.getElem?_eq_getElem hl, e1]) h _ fun ρ' h' => ih (i + 1) ρ' e2 hl h'
  exact key ds 0 ρ rfl (Nat.zero_le _) h0
section
variable {X : Cx} {pos : Pos}
theorem ds_for {tg iter : Expr} {body : List Stmt} {wi : TI} {g : TG} {tb : TS} {sl : List Nat} {wI : WI} {wg : WG} {wb : WS} (hp : PassesOwn (model X.prog X.w) X.A X.env X.xe) (hc : X.calm = true) (hi : DI X tg iter wi wI) (hg : DG X tg g sl wg) (hb : DSs X body tb wb)
    (hs : ∀ x, foldedSetIterable iter X.env x = pure x := by intro _; rfl) : DS X (.For tg iter body [] pos) (tFor wi g tb) (wFor wI wg wb) := by
  refine ⟨ps_for hp hc hi.pi hg.pg hb.ps hs, fun ρ D h O L0 L σ H0 H g0 I E l => ?_⟩
  refine hi.ev ρ _ h O L σ H I _ fun L1 J H1 ds ρ1 g1 I1 it h1 => ?_
  have l1 := l.shift (g0.trans g1)
  refine ⟨fun i m σ' H' => ∃ L' ρ', Go L1 H1 L' H' ∧ En X.K O L' H' σ' ρ' ∧ forD wg wb D (ds.drop i) ρ' ∧ i ≤ ds.length ∧ m = ds.length - i, ⟨ds.length, L1, ρ1, Go.refl, I1, h1, Nat.zero_le _, rfl⟩, ?_⟩
  rintro i m σ' H' ⟨L', ρ', g2, I', hf, hi', rfl⟩
  have gG : Same (less H1 (O ++ L1)) (less H' (O ++ L')) := g2.less
  have gH : Same (less H1 (O ++ L1)) H' := fun b o hb => (less_some (gG b o hb)).2
  by_cases hlt : i < ds.length
  · obtain ⟨d, hd⟩ : ∃ d, ds[i]? = some d := ⟨ds[i], by simp [hlt]⟩
    obtain ⟨go, yld⟩ := (it H' gH i).1 d hd
    have hdr : ds.drop i = d :: ds.drop (i + 1) := by
      rw [List.drop_eq_getElem_cons hlt]
      rw [List.getElem?_eq_getElem hlt] at hd
      cases hd
      rfl
    rw [hdr] at hf
    refine .inr ⟨go, fun σ'' H'' => ∃ L'' ρ'', Go L1 H1 L'' H'' ∧ En X.K O L'' H'' σ'' ρ'' ∧ forD wg wb D (ds.drop (i + 1)) ρ'', ?_, fun x H2 y => ?_⟩
    · rintro σ'' H'' ⟨L'', ρ'', k1, k2, k3⟩
      exact ⟨ds.length - (i + 1), by omega, L'', ρ'', k1, k2, k3, hlt, rfl⟩
    · have yk := yld x H2 y
      have Iy := I'.grow yk.same
      have dx : Dp X.K (less H2 (O ++ L')) x d := yk.dp I'.tr gG
      unfold forD at hf
      refine hg.ev d ρ' _ hf O L' σ' H2 x Iy dx _ fun σ2 ρ2 I2 _ _ h2 => ?_
      have gy : Go L1 H1 L' H2 := g2.trans (Go.same yk.same)
      exact hb.ev ρ2 _ h2 O L1 L' σ2 H1 H2 gy I2 _ ⟨fun L3 σ3 H3 ρ3 g3 I3 q => ⟨L3, ρ3, g3, I3, q⟩, l1.rt, fun L3 σ3 H3 ρ3 g3 I3 q => l1.nx L3 σ3 H3 ρ3 g3 I3 q, fun L3 σ3 H3 ρ3 g3 I3 q => ⟨L3, ρ3, g3, I3, q⟩⟩
  · have e : i = ds.length := by omega
    subst e
    rw [List.drop_length] at hf
    exact .inl ⟨(it H' gH ds.length).2 (Nat.le_refl _), l1.nx L' σ' H' ρ' g2 I' hf⟩
@[simp] def wWhile (wt : WT) (wb : WS) : WS := fun D ρ => ∃ I : Nat → List Sl → Prop, (∃ m, I m ρ) ∧ ∀ m ρ, I m ρ → wt ρ fun b ρ1 =>
  if b = true then wb ⟨fun ρ' => ∃ m', m' < m ∧ I m' ρ', D.rt, D.nx, fun ρ' => ∃ m', m' < m ∧ I m' ρ'⟩ ρ1 else D.nx ρ1
theorem ds_while {c : Expr} {body : List Stmt} {tc : TT} {tb : TS} {wt : WT} {wb : WS} (hp : PassesOwn (model X.prog X.w) X.A X.env X.xe) (hc : DT X c tc wt) (hb : DSs X body tb wb) : DS X (.While c body [] pos) (tWhile tc tb) (wWhile wt wb) := by
  refine ⟨ps_while hp hc.pt hb.ps, fun ρ D ⟨J, ⟨m0, h0⟩, h⟩ O L0 L σ H0 H g0 I E l => ?_⟩
  refine ⟨fun m σ' H' => ∃ L' ρ', Go L0 H0 L' H' ∧ En X.K O L' H' σ' ρ' ∧ J m ρ', ⟨m0, L, ρ, g0, I, h0⟩, ?_⟩
  rintro m σ' H' ⟨L', ρ', g2, I', hj⟩
  refine hc.ev ρ' _ (h m ρ' hj) O L' σ' H' I' _ fun L1 b H1 ρ1 g1 I1 h1 => ?_
  cases b with
  | true =>
    rw [if_pos rfl] at h1 ⊢
    refine ⟨fun σ'' H'' => ∃ L'' ρ'', Go L0 H0 L'' H'' ∧ En X.K O L'' H'' σ'' ρ'' ∧ ∃ m', m' < m ∧ J m' ρ'', ?_, ?_⟩
    · rintro σ'' H'' ⟨L'', ρ'', k1, k2, m', k3, k4⟩
      exact ⟨m', k3, L'', ρ'', k1, k2, k4⟩
    · exact hb.ev ρ1 _ h1 O L0 L1 σ' H0 H1 (g2.trans g1) I1 _ ⟨fun L3 σ3 H3 ρ3 g3 I3 q => ⟨L3, ρ3, g3, I3, q⟩, l.rt, fun L3 σ3 H3 ρ3 g3 I3 q => l.nx L3 σ3 H3 ρ3 g3 I3 q, fun L3 σ3 H3 ρ3 g3 I3 q => ⟨L3, ρ3, g3, I3, q⟩⟩
  | false =>
    rw [if_neg Bool.false_ne_true] at h1 ⊢
    exact l.nx L1 σ' H1 ρ1 (g2.trans g1) I1 h1
/-! ### name[k] = e for an owned list -/
@[simp] def wSetIx (i : Nat) (wb we : WE) : WS := fun D ρ => we ρ fun r ρ1 => (rdL ρ1[i]?).isSome = true ∧ wb ρ1 fun r2 ρ2 => match r.dat, r2.dat, owL ρ2[i]? with
  | some d, some (.int k), some ds => match ixN ds.length k with
    | some j => D.nx (setOw ρ2 i (ds.set j d))
    | none => False
  | _, _, _ => False
theorem ds_setIx (i : Nat) {x : Str} {p2 p3 : Pos} {b e : Expr} {tb te : TE} {wb we : WE} (hb : DE X b tb wb) (he : DE X e te we) (hN : X.N[i]? = some x := by rfl) (hv : Vis X.env.scope x := by first | exact Or.inl rfl | exact Or.inr (Or.inl rfl) | exact Or.inr (Or.inr rfl)) (hd : (x == ("__debug__" : Str)) = false := by decide)
    (hcd : (x == ("__classdict__" : Str)) = false := by decide) (ha : ∀ v, assign (.Subscript (.Name x p2) b p3) X.env v = (do
      let ov ← holding [v] (eval (.Name x p2) X.env)
      let iv ← holding [v, ov] (eval b X.env)
      standAt p3
      holding [v, ov, iv] (setItem ov iv v)
      release [v, ov, iv] []) := by intro _; rfl) (hs : swapsWithSole [.Subscript (.Name x p2) b p3] e pos.line X.env = pure false := by rfl) (hw : swappedStores [.Subscript (.Name x p2) b p3] e X.env = pure none := by rfl)
    (h1 : (assignEach [.Subscript (.Name x p2) b p3] X.env).map (·.2) = [assign (.Subscript (.Name x p2) b p3) X.env] := by rfl) : DS X (.Assign [.Subscript (.Name x p2) b p3] e pos) (tAsg te (gSub (tVar i) tb rSetL)) (wSetIx i wb we) := by
  refine ⟨ps_asg he.pe (pg_sub (pe_var hN hv hd hcd) hb.pe set_list ha) hs hw h1, fun ρ D h O L0 L σ H0 H g0 I E l => ?_⟩
  refine he.ev ρ _ h O L σ H I _ fun L1 v H1 r1 ρ1 g1 R1 ⟨q0, q1⟩ => ?_
  cases e0 : rdL ρ1[i]? with
  | none => rw [e0] at q0; cases q0
  | some ds0 =>
    obtain ⟨a0, vs0, w1, w2, _⟩ := R1.en.rdL e0
    refine ⟨_, w1, hb.ev ρ1 _ q1 O L1 σ H1 R1.en _ fun L2 y H2 r2 ρ2 g2 R2 h2 => ?_⟩
    cases e1 : r1.dat with
    | none => simp only [e1] at h2
    | some d =>
      cases e2 : r2.dat with
      | none => simp only [e1, e2] at h2
      | some d2 =>
        cases d2 with
        | int k =>
          cases e3 : owL ρ2[i]? with
          | none => simp only [e1, e2, e3] at h2
          | some ds =>
            cases e4 : ixN ds.length k with
            | none => simp only [e1, e2, e3, e4] at h2
            | some j =>
              simp only [e1, e2, e3, e4] at h2
              obtain ⟨a, vs, k1, k2, k3, k4, k5⟩ := R2.en.owL e3
              rw [w1] at k1
              cases k1
              cases (R2.dp e2)
              refine ⟨_, vs, k, j, rfl, rfl, k3, by rw [k4.len]; exact e4, ?_⟩
              exact l.nx L2 σ _ _ (g0.trans ((g1.trans g2).trans (Go.mut k2))) (k5 _ _ (k4.set ((R1.dp e1).up g2.less) j)) h2
        | _ => simp only [e1, e2] at h2
/-! ### a dict of ints of its own -/
@[simp] def wDNew : WE := fun ρ Q => Q (.nd []) ρ
theorem de_dnew : DE X (.Dict [] [] pos) tDNewK wDNew := ⟨pe_dnewK, fun ρ Q h O L σ H I QV q p hp => q L _ _ (.nd []) ρ (Go.same (new_same hp)) ⟨p, [], rfl, hp, fun z => I.tr p (List.mem_append_left _ z) hp, I.push (new_same hp) hp (by rw [upd_same]; simp), upd_same, .nil⟩ h⟩
def keysP (kvs : List (Key × PyData)) : List Key := kvs.map fun p => p.1
def keysW (kvs : List (Key × V)) : List Key := kvs.map fun p => p.1
def hasK (ks : List Key) (k : Key) : Bool := ks.any fun x => decide (x = k)
@[simp] def wDNotIn (neg : Bool) (j : Nat) (we : WE) : WT := fun ρ Q => we ρ fun r ρ1 => match r, ρ1[j]? with
  | .fz (.int k), some (.od kvs) => Q (if neg then !hasK (keysP kvs) (Sum.inl k) else hasK (keysP kvs) (Sum.inl k)) ρ1
  | _, _ => False
theorem KvAll.keys {K : PySem.W.Frag} {G : Hp} : ∀ {vs : List (Key × V)} {ds : List (Key × PyData)}, KvAll K G vs ds → keysW vs = keysP ds
  | _, _, .nil => rfl
  | _, _, .cons _ b => by unfold keysW keysP; rw [List.map_cons, List.map_cons]; exact congrArg _ b.keys
theorem valV_mem {vs : List (Key × V)} {k : Key} : (valV vs k).isSome = hasK (keysW vs) k := by
  rw [← valV_any]
  unfold hasK keysW
  rw [List.any_map]
  rfl
theorem dt_dnotin (j : Nat) {x : Str} {p2 : Pos} {e : Expr} {te : TE} {we : WE} (hu : X.A.units + 1 < cLine) (he : DE X e te we) (hN : X.N[j]? = some x := by rfl) (hv : Vis X.env.scope x := by first | exact Or.inl rfl | exact Or.inr (Or.inl rfl) | exact Or.inr (Or.inr rfl)) (hd : (x == ("__debug__" : Str)) = false := by decide)
    (hcd : (x == ("__classdict__" : Str)) = false := by decide) (hm : behindInMarks .NotIn (.Name x p2) = false := by rfl) : DT X (.Compare e [.NotIn] [.Name x p2] pos) (tB (tDNotIn te (tVar j))) (wDNotIn true j we) := by
  refine ⟨pt_cmp (pc_dnotin hu he.pe (pe_var hN hv hd hcd)) hm, fun ρ Q h O L σ H I QV q => ?_⟩
  refine he.ev ρ _ h O L σ H I _ fun L1 v H1 r1 ρ1 g1 R1 h1 => ?_
  split at h1
  · rename_i k kvs e1
    obtain ⟨I1, hd1⟩ := R1
    cases hd1
    obtain ⟨a, vs, k1, k2, k3, k4⟩ := I1.at_ j _ e1
    refine ⟨_, join_some k1, a, valV vs (Sum.inl k), rfl, DGet.k (k := Sum.inl k) k3, _, rfl, ?_⟩
    rw [valV_mem, k4.keys]
    exact q L1 _ H1 ρ1 g1 I1 h1
  · exact h1.elim
theorem dt_din (j : Nat) {x : Str} {p2 : Pos} {e : Expr} {te : TE} {we : WE} (hu : X.A.units + 1 < cLine) (he : DE X e te we) (hN : X.N[j]? = some x := by rfl) (hv : Vis X.env.scope x := by first | exact Or.inl rfl | exact Or.inr (Or.inl rfl) | exact Or.inr (Or.inr rfl)) (hd : (x == ("__debug__" : Str)) = false := by decide)
    (hcd : (x == ("__classdict__" : Str)) = false := by decide) (hm : behindInMarks .In (.Name x p2) = false := by rfl) : DT X (.Compare e [.In] [.Name x p2] pos) (tB (tDIn te (tVar j))) (wDNotIn false j we) := by
  refine ⟨pt_cmp (pc_din hu he.pe (pe_var hN hv hd hcd)) hm, fun ρ Q h O L σ H I QV q => ?_⟩
  refine he.ev ρ _ h O L σ H I _ fun L1 v H1 r1 ρ1 g1 R1 h1 => ?_
  split at h1
  · rename_i k kvs e1
    obtain ⟨I1, hd1⟩ := R1
    cases hd1
    obtain ⟨a, vs, k1, k2, k3, k4⟩ := I1.at_ j _ e1
    refine ⟨_, join_some k1, a, valV vs (Sum.inl k), rfl, DGet.k (k := Sum.inl k) k3, _, rfl, ?_⟩
    rw [valV_mem, k4.keys]
    exact q L1 _ H1 ρ1 g1 I1 h1
  · exact h1.elim
theorem KvAll.snoc {K : PySem.W.Frag} {G : Hp} {k : Key} {v : V} {d : PyData} (h : Dp K G v d) : ∀ {vs : List (Key × V)} {ds : List (Key × PyData)}, KvAll K G vs ds → KvAll K G (vs ++ [(k, v)]) (ds ++ [(k, d)])
  | _, _, .nil => .cons h .nil
  | _, _, .cons a b => .cons a (KvAll.snoc h b)
/-- a new key -/
@[simp] def wDPut (j : Nat) (wk wv : WE) : WS := fun D ρ => wv ρ fun r ρ1 => (∃ kvs, ρ1[j]? = some (.od kvs)) ∧ wk ρ1 fun r2 ρ2 => match r.dat, r2, ρ2[j]? with
  | some d, .fz (.int k), some (.od kvs) => (kvs.length < 1000000 ∧ hasK (keysP kvs) (Sum.inl k) = false) ∧ D.nx (ρ2.set j (.od (kvs ++ [(Sum.inl k, d)])))
  | _, _, _ => False
theorem ds_dput (j : Nat) {x : Str} {p2 p3 : Pos} {e i : Expr} {te ti : TE} {we wk : WE} (hu : X.A.units + 1 < cLine) (hi : DE X i ti wk) (he : DE X e te we) (hN : X.N[j]? = some x := by rfl) (hv : Vis X.env.scope x := by first | exact Or.inl rfl | exact Or.inr (Or.inl rfl) | exact Or.inr (Or.inr rfl)) (hd : (x == ("__debug__" : Str)) = false := by decide)
    (hcd : (x == ("__classdict__" : Str)) = false := by decide) (hs : swapsWith e (some (.Subscript (.Name x p2) i p3)) pos.line X.env = pure false := by rfl) : DS X (.Assign [.Subscript (.Name x p2) i p3] e pos) (sDPut (tVar j) ti te) (wDPut j wk we) := by
  refine ⟨ps_dput hu (pe_var hN hv hd hcd) hi.pe he.pe hs, fun ρ D h O L0 L σ H0 H g0 I E l => ?_⟩
  refine he.ev ρ _ h O L σ H I _ fun L1 v H1 r1 ρ1 g1 R1 ⟨⟨kvs0, q0⟩, q1⟩ => ?_
  obtain ⟨a0, vs0, w1, _⟩ := R1.en.at_ j _ q0
  refine ⟨_, join_some w1, hi.ev ρ1 _ q1 O L1 σ H1 R1.en _ fun L2 y H2 r2 ρ2 g2 R2 h2 => ?_⟩
  cases e1 : r1.dat with
  | none => simp only [e1] at h2
  | some d =>
    simp only [e1] at h2
    split at h2
    · rename_i d' k kvs z0 z2
      cases z0
      obtain ⟨I2, hd2⟩ := R2
      cases hd2
      obtain ⟨a, vs, k1, k2, k3, k4⟩ := I2.at_ j _ z2
      rw [w1] at k1
      cases k1
      have hn : valV vs (Sum.inl k : Key) = none := by
        have := valV_mem (vs := vs) (k := Sum.inl k)
        rw [k4.keys, h2.1.2] at this
        cases q : valV vs (Sum.inl k : Key) with
        | none => rfl
        | some u => rw [q] at this; cases this
      refine ⟨_, _, rfl, DPut.k (k := Sum.inl k) k3 (lt_line (by rw [k4.len]; exact Nat.lt_of_lt_of_le h2.1.1 (by decide))), ?_⟩
      rw [putK_new v hn]
      refine l.nx L2 σ _ _ (g0.trans ((g1.trans g2).trans (Go.mut k2))) (I2.mut z2 trivial w1 k2 (s' := .od (kvs ++ [(Sum.inl k, _)])) ⟨_, _, rfl, k2, upd_same, ?_⟩ trivial) h2.2
      rw [less_upd (List.mem_append_right _ k2)]
      exact KvAll.snoc ((R1.dp e1).up g2.less) k4
    · exact h2.elim
end
end DC

set_option Elab.async false
set_option linter.all false
set_option maxRecDepth 100000
set_option maxHeartbeats 1000000
namespace DC
open PySem PySem.Spec PyProof.Rows L2

/-! ### defs that may be asked for a text of a list: nothing is being written out around them -/
structure FnG (P : Program) (w : World) (K : PySem.W.Frag) (mg : Str → Option Value) (base : Heap) (k : Nat) (f : Addr) (fd : FuncData) (ps : List Str) (sp : Sp) : Prop where
  len : ∀ vs H Q E, sp vs H Q E → vs.length = ps.length
  run : ∀ (A : Around) (outer : List Env) (s : Shared) (H : Hp) (args : Args) (us : List Value) (vs : List V) (Q : VK), A.guards = some [] → Room k A → Env0 P w K mg base A outer s H → BindsTo s fd args (ps.zip us) → Vals vs us →
    sp vs H Q E0 → codeAny (model P w) A (.call (.ref f) args) (CR CX0 outer P w H s Q E0) s
theorem FnG.up {P : Program} {w : World} {K : PySem.W.Frag} {mg : Str → Option Value} {base : Heap} {j k : Nat} {f : Addr} {fd : FuncData} {ps : List Str} {sp : Sp} (F : FnG P w K mg base j f fd ps sp) (h : j ≤ k) : FnG P w K mg base k f fd ps sp :=
  ⟨F.len, fun A outer s H args us vs Q hg hr => F.run A outer s H args us vs Q hg (hr.mono h)⟩
section
variable {X : Cx} {k : Nat} {f C : Addr} {fd : FuncData} {ps : List Str} {sp : Sp} {x m : Str} {p pos apos : Pos} {e o : Expr} {es : List Expr} {ta : TE} {t : TA}
theorem run_g {pins : List (Addr × Obj)} {σ : L2.St} {H : Hp} {s : Shared} {Q : VK} {us : List Value} {vs : List V} {args : Args} (F : FnG X.prog X.w X.K X.mg X.base k f fd ps sp) (hgd : X.A.guards = some []) (hr : Room k X.A) (hb : BindsTo s fd args (ps.zip us))
    (I : Inv X pins σ H s) (r : Vals vs us) (h : sp vs H Q E0) : codeAny (model X.prog X.w) X.A (.call (.ref f) args) (fun r s' => match r with | .ok (.ret u) => EP X pins σ Q u s' | .ok _ => False | .error e => X.xe e s') s := by
  apply codeAny_mono (F.run X.A X.stack s H args us vs Q hgd hr I.env0 hb r h)
  intro r s' hq
  match r, hq with
  | .ok (.ret u), hq => exact I.after hq
  | .ok .next, hq => exact hq
  | .ok .brk, hq => exact hq
  | .ok .cont, hq => exact hq
  | .error _, hq => exact hq.elim
theorem run_gw {pins : List (Addr × Obj)} {σ : L2.St} {H : Hp} {s : Shared} {Q : VK} {us : List Value} {vs : List V} (F : FnG X.prog X.w X.K X.mg X.base k f fd ps sp) (hgd : X.A.guards = some []) (hr : Room k X.A) (hb : Binds X.K fd ps [])
    (I : Inv X pins σ H s) (r : Vals vs us) (h : sp vs H Q E0) : wpAny (model X.prog X.w) X.A (call (.ref f) us) (EP X pins σ Q) X.xe s := by
  have hl : us.length = ps.length := r.length.symm.trans (F.len _ _ _ _ h)
  have hb' := hb s us I.kIn (by rw [List.append_nil]; exact hl)
  rw [List.append_nil] at hb'
  apply wpAny_call
  apply codeAny_mono (run_g F hgd hr hb' I r h)
  intro r s' hq
  match r, hq with
  | .ok (.ret u), hq => exact hq
  | .error _, hq => exact hq
theorem pe_callG (F : FnG X.prog X.w X.K X.mg X.base k f fd ps sp) (hgd : X.A.guards = some []) (hr : Room k X.A) (hg : Gl X x) (hm : X.mg x = some (.ref f)) (hk : PySem.W.keepIn X.K (.ref f) = true) (hb : Binds X.K fd ps [])
    (ha : PA X (e :: es) t) (hdb : (x == ("__debug__" : Str)) = false) (he : starEach (e :: es) X.env = (false, eval e X.env) :: starEach es X.env) (hpl : (backTo pos (starEach es X.env)).any (·.1) = false) :
    PE X (.Call (.Name x p) (e :: es) [] pos) (tCall sp [] E0 t) := by
  constructor
  intro pins s σ H Q I h
  apply wpAny_Call_Name_kw
  apply ld_glob I hg hm _ hdb
  apply PySem.W.callWith_K (h₀ := X.base) I.ok.mod.kin hk _ he hpl
  apply thn (ha.run pos pins s σ H _ I h)
  rintro us s1 ⟨vs, H1, I1, r, q⟩
  rw [List.append_nil] at q
  exact ⟨I1.kIn, run_gw F hgd hr hb I1 r q⟩
theorem pe_methG {pl : Sem Bool} (he : PE X o ta) (c : Cls X.K C) (hm : Meth X.K C m f) (F : FnG X.prog X.w X.K X.mg X.base k f fd ps sp) (hgd : X.A.guards = some []) (hr : Room k X.A) (hb : Binds X.K fd ps []) (ha : PA X (e :: es) t)
    (hst : starEach (e :: es) X.env = (false, eval e X.env) :: starEach es X.env) (hpl : (backTo pos (starEach es X.env)).any (·.1) = false)
    (ht : eval (.Call (.Attribute o m apos) (e :: es) [] pos) X.env = (do
      let ov ← eval o X.env
      standAt apos.atName
      let (f, first) ← holding [ov] (getMethod ov m pl)
      callWith pos f first (backTo pos (starEach (e :: es) X.env)) (backToKw pos (keywordEach [] X.env)))) :
    PE X (.Call (.Attribute o m apos) (e :: es) [] pos) (tMeth C m sp [] E0 ta t) := by
  constructor
  intro pins s σ H Q I h
  apply PySem.W.methodCall_KW (pl := pl) _ ht
  apply thn (he.run pins s σ H _ I h)
  rintro u s1 ⟨x, H1, I1, rx, a, dx, fs, rfl, ea, l, q⟩
  cases rx
  apply getmeth_ok I1 ea c hm l
  apply PySem.W.callWith_K (first := [.ref a]) (h₀ := X.base) I.ok.mod.kin hm.kp _ hst hpl
  apply thn (ha.run pos pins s1 σ H1 _ I1 q)
  rintro us s2 ⟨vs, H2, I2, r, q2⟩
  rw [List.append_nil] at q2
  exact ⟨I2.kIn, run_gw (us := .ref a :: us) (vs := .ref a :: vs) F hgd hr hb I2 (.cons rfl r) q2⟩
end
/-- the body's context: nothing is being written out -/
theorem guards_deeper {A : Around} {env : Env} : (A.deeper env).guards = A.guards := rfl
theorem fn_ofG {P : Program} {w : World} {K : PySem.W.Frag} {mg : Str → Option Value} {base : Heap} {k : Nat} {f : Addr} {fd : FuncData} {name qual : Str} {params : Arguments} {body : List Stmt} {scope : Scope} {N ps : List Str} {sp : Sp}
    (F : FunD K name qual params body scope [] [] f fd) (S : FnScope N ps scope) (len : ∀ vs H Q E, sp vs H Q E → vs.length = ps.length)
    (hbody : ∀ (cdv : Value) (A : Around) (outer : List Env) (s : Shared) (H : Hp) (vs : List V) (Q : VK), A.guards = some [] → Room k (A.deeper (envOfC qual scope s.heap.objs.size f cdv)) → sp vs H Q E0 →
      ∃ t, PSs (cxOf CX0 P w K mg base N qual scope f cdv A outer s H E0) body t ∧ t { nx := fun _ H' => Q .non H', rt := Q } (start N vs) H) : FnG P w K mg base (k + 1) f fd ps sp := by
  obtain ⟨oc, od, dV, kV, doc, pm, an, cdv, ct, osl, rfl, lk, hcd, _, _⟩ := F.ex
  refine ⟨len, ?_⟩
  intro A outer s H args us vs Q hgd hr e0 hb r hsp
  have sub : ∀ b o, base.get? b = some o → s.heap.get? b = some o := fun b o e => (e0.bs b o e).1
  have KX := e0.mod.kin.keeps sub
  have hkind : ∀ y ∈ ps.zip us, scope.names.lookup y.1 = some .local ∨ (scope.names.lookup y.1 = some .cell ∧ ((cellsFrom (s.heap.objs.size + 1) scope.names []).lookup y.1).isSome = true) := by
    intro y hy
    obtain ⟨n, v⟩ := y
    exact (S.par n (List.of_mem_zip hy).1).imp id fun q => ⟨q, PySem.W.cellsFrom_some _ _ _ (.inl q)⟩
  apply codeAny_call_function hr.depth (KX _ _ lk) rfl S.co S.gen rfl (PySem.W.codeRec_of KX hcd) (hb _ _ _ _ _)
  apply wpAny_newFunctionEnv_cells S.kind hkind
  rintro env rfl s1 x
  refine ⟨(e0.mod.nolimit.keeps sub).keeps x.toInCall.keep, codeAny_func ?_⟩
  obtain ⟨t, ht, hq⟩ := hbody cdv A outer s H vs Q hgd (hr.deeper _) hsp
  have I := inv_start (CX := CX0) (K := K) (E := E0) S hr.hd e0 (len _ _ _ _ hsp) r x
  apply wpAny_mono (ht.run [] s1 (start N vs) H _ I hq) _ (fun _ _ z => z)
  intro fl s' hs
  match fl, hs with
  | .ret u, ⟨v, σ', H', J, rv, q⟩ => exact ⟨v, H', J.os, J.bare, J.base, J.hok, rv, q⟩
  | .next, ⟨σ', H', J, q⟩ => exact ⟨.non, H', J.os, J.bare, J.base, J.hok, rfl, q⟩
  | .brk, ⟨_, _, _, q⟩ => exact False.elim q
  | .cont, ⟨_, _, _, q⟩ => exact False.elim q

/-! ### promises on data -/
abbrev SPc := List Sl → (Rs → Prop) → Prop
/-- a def that changes nothing of its caller's: from data to a result -/
def spP (K : PySem.W.Frag) (S : SPc) : Sp := fun vs H Q _ => ∃ (M : List Addr) (as : List Sl) (Qd : Rs → Prop), (∀ a ∈ M, H a ≠ none) ∧ ArAll K (less H M) vs as ∧ S as Qd ∧ ∀ v H' r, Same H H' → VrOk K M H H' v r → Qd r → Q v H'
abbrev SFc := List PyData → List Sl → (PyData → List PyData → Prop) → Prop
/-- a def whose first argument is a list that it may change -/
def spF (K : PySem.W.Frag) (S : SFc) : Sp := fun vs H Q _ => ∃ (M : List Addr) (a : Addr) (us : List V) (fs : List PyData) (vs' : List V) (as : List Sl) (Qd : PyData → List PyData → Prop), vs = .ref a :: vs' ∧ (∀ b ∈ M, H b ≠ none) ∧ a ∉ M ∧
  H a = some (.lst us) ∧ DpAll K (less H (a :: M)) us fs ∧ ArAll K (less H (a :: M)) vs' as ∧ S fs as Qd ∧
  ∀ v H' d us' fs', (∀ b o, b ≠ a → H b = some o → H' b = some o) → H' a = some (.lst us') → DpAll K (less H' (a :: M)) us' fs' → Dp K (less H' (a :: M)) v d → Qd d fs' → Q v H'
@[simp] def wCallP (S : SPc) (wa : WA) : WE := fun ρ Q => wa ρ fun as ρ1 => S as fun r => Q r ρ1
/-- f(name, e, ..), the name's list changed -/
@[simp] def wCallF (S : SFc) (i : Nat) (wa : WA) : WE := fun ρ Q => (rdL ρ[i]?).isSome = true ∧ wa ρ fun as ρ1 => match owL ρ1[i]? with
  | some fs => S fs as fun d fs' => Q (.fz d) (setOw ρ1 i fs')
  | none => False
@[simp] def wMeth (C : Addr) (m : Str) (S : SPc) (wo : WE) (wa : WA) : WE := fun ρ Q => wo ρ fun r ρ1 => match r with
  | .ob C' fs => (C' = C ∧ fs.lookup m = none) ∧ wa ρ1 fun as ρ2 => S (.ob C' fs :: as) fun r => Q r ρ2
  | _ => False
section
variable {X : Cx} {k : Nat} {f C : Addr} {fd : FuncData} {ps : List Str} {x m : Str} {p pos apos : Pos} {e o : Expr} {es : List Expr} {to : TE} {wo : WE} {ta : TA} {wa : WA} {S : SPc} {T : SFc}
theorem ev_callP (h : ∀ ρ Q, wa ρ Q → EvA X.K ta ρ Q) (ρ : List Sl) (Q : Rs → List Sl → Prop) (w : wCallP S wa ρ Q) : Ev X.K (tCall (spP X.K S) [] E0 ta) ρ Q := by
  intro O L σ H I QV q
  refine h ρ _ w O L σ H I _ fun L1 vs H1 ss ρ1 g1 I1 a1 h1 => ?_
  rw [List.append_nil]
  refine ⟨O ++ L1, ss, _, I1.tr, a1, h1, fun v H' r s1 ok hq => ?_⟩
  exact q L1 v H' r ρ1 (g1.trans (Go.same s1)) ((VrOk.rs I1 s1 ok).back fun p z => g1.free z) hq
theorem de_callP (F : FnG X.prog X.w X.K X.mg X.base k f fd ps (spP X.K S)) (hgd : X.A.guards = some []) (hr : Room k X.A) (hg : Gl X x) (hm : X.mg x = some (.ref f)) (hk : PySem.W.keepIn X.K (.ref f) = true) (hb : Binds X.K fd ps [])
    (ha : DA X (e :: es) ta wa) (hdb : (x == ("__debug__" : Str)) = false := by decide) (he : starEach (e :: es) X.env = (false, eval e X.env) :: starEach es X.env := by rfl) (hpl : (backTo pos (starEach es X.env)).any (·.1) = false := by rfl) :
    DE X (.Call (.Name x p) (e :: es) [] pos) (tCall (spP X.K S) [] E0 ta) (wCallP S wa) := ⟨pe_callG F hgd hr hg hm hk hb ha.pa hdb he hpl, ev_callP ha.ev⟩
theorem de_callF (i : Nat) {y : Str} {p2 : Pos} (F : FnG X.prog X.w X.K X.mg X.base k f fd ps (spF X.K T)) (hgd : X.A.guards = some []) (hr : Room k X.A) (hg : Gl X x) (hm : X.mg x = some (.ref f)) (hk : PySem.W.keepIn X.K (.ref f) = true) (hb : Binds X.K fd ps [])
    (ha : DA X es ta wa) (hN : X.N[i]? = some y := by rfl) (hv : Vis X.env.scope y := by first | exact Or.inl rfl | exact Or.inr (Or.inl rfl) | exact Or.inr (Or.inr rfl)) (hd : (y == ("__debug__" : Str)) = false := by decide) (hcd : (y == ("__classdict__" : Str)) = false := by decide)
    (hdb : (x == ("__debug__" : Str)) = false := by decide) (he : starEach (.Name y p2 :: es) X.env = (false, eval (.Name y p2) X.env) :: starEach es X.env := by rfl) (hpl : (backTo pos (starEach es X.env)).any (·.1) = false := by rfl) :
    DE X (.Call (.Name x p) (.Name y p2 :: es) [] pos) (tCall (spF X.K T) [] E0 (tCons (tVar i) ta)) (wCallF T i wa) := by
  refine ⟨pe_callG F hgd hr hg hm hk hb (pa_cons (pe_var hN hv hd hcd) ha.pa he) hdb he hpl, fun ρ Q ⟨h0, h⟩ O L σ H I QV q => ?_⟩
  cases e0 : rdL ρ[i]? with
  | none => rw [e0] at h0; cases h0
  | some ds0 =>
    obtain ⟨a0, vs0, w1, w2, _⟩ := I.rdL e0
    refine ⟨_, w1, ha.ev ρ _ h O L σ H I _ fun L1 vs H1 ss ρ1 g1 I1 a1 h1 => ?_⟩
    cases e1 : owL ρ1[i]? with
    | none => simp only [e1] at h1
    | some fs =>
      simp only [e1] at h1
      obtain ⟨a, us, k1, k2, k3, k4, k5⟩ := I1.owL e1
      rw [w1] at k1
      cases k1
      rw [List.append_nil]
      have cg : less H1 (O ++ L1) = less H1 (a0 :: (O ++ L1.filter (· ≠ a0))) := less_congr fun b => by
        simp only [List.mem_append, List.mem_cons, List.mem_filter]
        constructor
        · rintro (z | z)
          · exact .inr (.inl z)
          · by_cases e : b = a0
            · exact .inl e
            · exact .inr (.inr ⟨z, by simpa using e⟩)
        · rintro (rfl | z | ⟨z, _⟩)
          · exact .inr k2
          · exact .inl z
          · exact .inr z
      have memc : ∀ b, b ∈ a0 :: (O ++ L1.filter (· ≠ a0)) ↔ b ∈ O ++ L1 := fun b => by
        simp only [List.mem_append, List.mem_cons, List.mem_filter]
        constructor
        · rintro (rfl | z | ⟨z, _⟩)
          · exact .inr k2
          · exact .inl z
          · exact .inr z
        · rintro (z | z)
          · exact .inr (.inl z)
          · by_cases e : b = a0
            · exact .inl e
            · exact .inr (.inr ⟨z, by simpa using e⟩)
      refine ⟨O ++ L1.filter (· ≠ a0), a0, us, fs, vs, ss, _, rfl, fun b hb => I1.tr b ((memc b).mp (List.mem_cons_of_mem _ hb)), fun z => ?_, k3, by rw [← cg]; exact k4, by rw [← cg]; exact a1, h1, fun v H' d us' fs' keep ha' hfs ok hq => ?_⟩
      · rcases List.mem_append.mp z with z | z
        · exact I1.dis a0 k2 z
        · have := (List.mem_filter.mp z).2
          simp at this
      · have cg' : less H' (a0 :: (O ++ L1.filter (· ≠ a0))) = less H' (O ++ L1) := less_congr memc
        rw [cg'] at hfs
        -- the slots behind the call
        have gk : Go L1 H1 L1 H' := ⟨fun b o hb hn => keep b o (fun z => hn (by rw [z]; exact k2)) hb, fun _ z => .inl z, fun b hb => by
          by_cases e : b = a0
          · rw [e, ha']; simp
          · cases q1 : H1 b with
            | none => exact absurd q1 hb
            | some o => rw [keep b o e q1]; simp⟩
        -- first the list in H1 with its new items' shape, then all else
        have en2 : En X.K O L1 H' σ (setOw ρ1 i fs') := by
          have hs : ∃ s, ρ1[i]? = some s ∧ Owned s ∧ ∃ s', Owned s' ∧ setOw ρ1 i fs' = ρ1.set i s' ∧ SlOk X.K (O ++ L1) L1 H' (some (.ref a0)) s' := by
            cases q1 : ρ1[i]? with
            | none => rw [q1] at e1; cases e1
            | some s =>
              rw [q1] at e1
              cases s with
              | ow ds => exact ⟨_, rfl, trivial, .ow fs', trivial, by unfold setOw; rw [q1], a0, us', rfl, k2, ha', hfs⟩
              | bw b ds =>
                obtain ⟨vs2, m1, m2, m3, m4⟩ := I1.at_ i _ q1
                rw [w1] at m1
                cases m1
                exact ⟨_, rfl, trivial, .bw a0 fs', trivial, by unfold setOw; rw [q1], us', rfl, k2, ha', hfs⟩
              | _ => cases e1
          obtain ⟨s, q1, o1, s', o2, es', ok'⟩ := hs
          rw [es']
          have il : i < ρ1.length := (List.getElem?_eq_some_iff.mp q1).1
          have wj : σ[i]?.join = some (.ref a0) := by rw [w1]; rfl
          refine ⟨by rw [List.length_set]; exact I1.len, fun j t z => ?_, fun j l t u b z1 z2 p1 p2 f1 f2 => ?_, fun b hb => gk.st b (I1.tr b hb), I1.dis⟩
          · by_cases hj : j = i
            · subst hj
              rw [List.getElem?_set_self il] at z
              cases z
              rw [wj]
              exact ok'
            · rw [List.getElem?_set_ne (Ne.symm hj)] at z
              have qq := I1.at_ j t z
              have gl : Same (less H1 (O ++ L1)) (less H' (O ++ L1)) := gk.less
              have ne : ∀ {b : Addr}, Owned t → σ[j]?.join = some (.ref b) → b ≠ a0 := fun {b} o e z' => by
                subst z'
                exact hj (I1.inj j i t s b z q1 o o1 e wj)
              cases t with
              | un => exact trivial
              | fz d => obtain ⟨v, m1, m2⟩ := qq; exact ⟨v, m1, m2.up gl⟩
              | ow es => obtain ⟨b, ws, m1, m2, m3, m4⟩ := qq; exact ⟨b, ws, m1, m2, keep _ _ (ne trivial m1) m3, m4.up gl⟩
              | bw b es => obtain ⟨ws, m1, m2, m3, m4⟩ := qq; exact ⟨ws, m1, m2, keep _ _ (ne trivial m1) m3, m4.up gl⟩
              | od es => obtain ⟨b, ws, m1, m2, m3, m4⟩ := qq; exact ⟨b, ws, m1, m2, keep _ _ (ne trivial m1) m3, m4.up gl⟩
              | ob C fs => obtain ⟨v, m1, m2⟩ := qq; exact ⟨v, m1, m2.up gl⟩
          · have back : ∀ {j : Nat} {t : Sl}, (ρ1.set i s')[j]? = some t → Owned t → ∃ t', ρ1[j]? = some t' ∧ Owned t' := fun {j t} z o => by
              by_cases hj : j = i
              · subst hj
                exact ⟨s, q1, o1⟩
              · rw [List.getElem?_set_ne (Ne.symm hj)] at z
                exact ⟨t, z, o⟩
            obtain ⟨t1, y1, r1⟩ := back z1 p1
            obtain ⟨t2, y2, r2⟩ := back z2 p2
            exact I1.inj j l t1 t2 b y1 y2 r1 r2 f1 f2
        exact q L1 v H' (.fz d) _ (g1.trans gk) (.f en2 (by rw [← cg']; exact ok)) hq
end
/-! ### a def's body keeps such a promise -/
section
variable {P : Program} {w : World} {K : PySem.W.Frag} {mg : Str → Option Value} {base : Heap} {k : Nat} {f : Addr} {fd : FuncData} {name qual : Str} {params : Arguments} {body : List Stmt} {scope : Scope} {N ps : List Str}
theorem ArOk.slot {K : PySem.W.Frag} {M : List Addr} {H : Hp} {v : V} {s : Sl} (h : ArOk K (less H M) v s) (L : List Addr) : SlOk K M L H (some v) s ∧ ¬ Owned s := by
  cases s with
  | fz d => exact ⟨⟨v, rfl, h⟩, fun z => z⟩
  | ob C fs => exact ⟨⟨v, rfl, h⟩, fun z => z⟩
  | _ => exact False.elim h
theorem ArAll.at_ {K : PySem.W.Frag} {G : Hp} : ∀ {vs : List V} {ss : List Sl} {i : Nat} {s : Sl}, ArAll K G vs ss → ss[i]? = some s → ∃ v, vs[i]? = some v ∧ ArOk K G v s
  | _, _, _, _, .nil, e => by simp at e
  | _, _, 0, _, .cons a _, e => by simp at e; subst e; exact ⟨_, rfl, a⟩
  | _, _, i + 1, _, .cons _ b, e => by
    obtain ⟨v, h1, h2⟩ := ArAll.at_ (i := i) b (by simpa using e)
    exact ⟨v, by simpa using h1, h2⟩
/-- the slots of an entry: the arguments, then names without a value -/
@[simp] def entry (N : List Str) (as : List Sl) : List Sl := as ++ List.replicate (N.length - as.length) .un
theorem entry_get {N : List Str} {as : List Sl} {i : Nat} {s : Sl} (h : (entry N as)[i]? = some s) : (i < as.length ∧ as[i]? = some s) ∨ (as.length ≤ i ∧ s = .un) := by
  unfold entry at h
  by_cases hi : i < as.length
  · rw [List.getElem?_append_left hi] at h
    exact .inl ⟨hi, h⟩
  · rw [List.getElem?_append_right (by omega)] at h
    rw [List.getElem?_replicate] at h
    split at h
    · cases h; exact .inr ⟨by omega, rfl⟩
    · cases h
theorem start_get {N : List Str} {vs : List V} {i : Nat} (h : i < vs.length) : (start N vs)[i]?.join = vs[i]? := by
  unfold L2.start
  rw [List.getElem?_append_left (by simpa using h), List.getElem?_map]
  cases vs[i]? <;> rfl
theorem en_start {K : PySem.W.Frag} {M : List Addr} {H : Hp} {N : List Str} {vs : List V} {as : List Sl} (tr : ∀ a ∈ M, H a ≠ none) (h : ArAll K (less H M) vs as) : En K M [] H (start N vs) (entry N as) := by
  have hM : M ++ [] = M := List.append_nil M
  refine ⟨?_, fun i s e => ?_, fun i j s t a h1 h2 o1 o2 e1 e2 => ?_, by rw [hM]; exact tr, fun a z => nomatch z⟩
  · unfold L2.start entry
    rw [List.length_append, List.length_append, List.length_map, List.length_replicate, List.length_replicate, h.len]
  · rcases entry_get e with ⟨hi, e⟩ | ⟨_, rfl⟩
    · obtain ⟨v, h1, h2⟩ := h.at_ e
      rw [start_get (by rw [h.len]; exact hi), h1, hM]
      exact (h2.slot []).1
    · exact trivial
  · rcases entry_get h1 with ⟨hi, e⟩ | ⟨_, rfl⟩
    · obtain ⟨v, _, h4⟩ := h.at_ e
      exact absurd o1 (h4.slot []).2
    · exact o1.elim
theorem okP {S : SPc} (F : FunD K name qual params body scope [] [] f fd) (sc : FnScope N ps scope) (hl : ∀ as Q, S as Q → as.length = ps.length)
    (hbody : ∀ (cdv : Value) (A : Around) (outer : List Env) (s : Shared) (H : Hp), A.guards = some [] → Room k (A.deeper (envOfC qual scope s.heap.objs.size f cdv)) →
      ∃ t w', DSs (cxOf CX0 P w K mg base N qual scope f cdv A outer s H E0) body t w' ∧ ∀ as Q, S as Q → w' ⟨fun _ => Q (.fz .none), fun r _ => Q r, fun _ => False, fun _ => False⟩ (entry N as)) : FnG P w K mg base (k + 1) f fd ps (spP K S) := by
  refine fn_ofG F sc (fun vs H Q E ⟨M, as, Qd, _, h2, h3, _⟩ => h2.len.trans (hl as Qd h3)) fun cdv A outer s H vs Q hg hr ⟨M, as, Qd, tr, ha, hS, q⟩ => ?_
  obtain ⟨t, w', D, hw⟩ := hbody cdv A outer s H hg hr
  refine ⟨t, D.ps, D.ev _ _ (hw as Qd hS) M [] [] (start N vs) H H Go.refl (en_start tr ha) _ ⟨fun L σ H' ρ g I h => ?_, fun L σ v H' r ρ g R h => ?_, fun _ _ _ _ _ _ h => h, fun _ _ _ _ _ _ h => h⟩⟩
  · exact q .non H' (.fz .none) (fun b o z => g.keep b o z (by simp)) (show Dp K _ _ _ from .non) h
  · refine q v H' r (fun b o z => g.keep b o z (by simp)) ?_ h
    have an : Same (less H' (M ++ L)) (less H' M) := less_anti fun a z => List.mem_append_left _ z
    cases r with
    | fz d => exact R.2.up an
    | ob C fs => exact R.2.up an
    | nl ds =>
      obtain ⟨p, vs, h1, h2, _, _, h4, h5⟩ := R
      exact ⟨p, vs, h1, h2, h4, h5.up (less_anti fun a z => by
        rw [List.mem_cons] at z ⊢
        exact z.imp id (List.mem_append_left _))⟩
    | nd ds =>
      obtain ⟨p, vs, h1, h2, _, _, h4, h5⟩ := R
      exact ⟨p, vs, h1, h2, h4, KvAll.up (less_anti fun a z => by
        rw [List.mem_cons] at z ⊢
        exact z.imp id (List.mem_append_left _)) h5⟩
theorem okF {S : SFc} (F : FunD K name qual params body scope [] [] f fd) (sc : FnScope N ps scope) (hl : ∀ fs as Q, S fs as Q → as.length + 1 = ps.length)
    (hbody : ∀ (cdv : Value) (A : Around) (outer : List Env) (s : Shared) (H : Hp), A.guards = some [] → Room k (A.deeper (envOfC qual scope s.heap.objs.size f cdv)) →
      ∃ t w', DSs (cxOf CX0 P w K mg base N qual scope f cdv A outer s H E0) body t w' ∧ ∀ fs as Q, S fs as Q → ∀ a, w' ⟨fun _ => False, fun r ρ => ∃ d fs', r.dat = some d ∧ ρ[0]? = some (.bw a fs') ∧ Q d fs', fun _ => False, fun _ => False⟩ (entry N (.bw a fs :: as))) : FnG P w K mg base (k + 1) f fd ps (spF K S) := by
  refine fn_ofG F sc (fun vs H Q E ⟨M, a, us, fs, vs', as, Qd, h1, _, _, _, _, h2, h3, _⟩ => by rw [h1, List.length_cons, h2.len]; exact hl fs as Qd h3)
    fun cdv A outer s H vs Q hg hr ⟨M, a, us, fs, vs', as, Qd, ev, tr, hM, ha, hfs, has, hS, q⟩ => ?_
  subst ev
  obtain ⟨t, w', D, hw⟩ := hbody cdv A outer s H hg hr
  have cg : ∀ H' : Hp, less H' (M ++ [a]) = less H' (a :: M) := fun H' => less_congr fun b => by
    rw [List.mem_append, List.mem_singleton, List.mem_cons]
    exact Or.comm
  have en : En K M [a] H (start N (.ref a :: vs')) (entry N (.bw a fs :: as)) := by
    have h0 : ∀ {i : Nat} {s : Sl}, (entry N (.bw a fs :: as))[i]? = some s → (i = 0 ∧ s = .bw a fs) ∨ (SlOk K (M ++ [a]) [a] H ((start N (V.ref a :: vs'))[i]?.join) s ∧ ¬ Owned s) := fun {i s} e => by
      rcases entry_get e with ⟨hi, e⟩ | ⟨_, rfl⟩
      · cases i with
        | zero => cases e; exact .inl ⟨rfl, rfl⟩
        | succ i =>
          obtain ⟨v, m1, m2⟩ := has.at_ (show as[i]? = some s by simpa using e)
          rw [start_get (by rw [List.length_cons, has.len]; simpa using hi)]
          rw [show (V.ref a :: vs')[i + 1]? = some v by simpa using m1]
          rw [← cg] at m2
          exact .inr (m2.slot [a])
      · exact .inr ⟨trivial, fun z => z⟩
    refine ⟨?_, fun i s e => ?_, fun i j s t b h1 h2 o1 o2 e1 e2 => ?_, fun b z => ?_, fun b z => ?_⟩
    · unfold L2.start entry
      rw [List.length_append, List.length_append, List.length_map, List.length_replicate, List.length_replicate, List.length_cons, List.length_cons, has.len]
    · rcases h0 e with ⟨rfl, rfl⟩ | ⟨h, _⟩
      · exact ⟨us, by rw [start_get (by simp)]; rfl, List.mem_singleton_self a, ha, by rw [cg]; exact hfs⟩
      · exact h
    · rcases h0 h1 with ⟨rfl, _⟩ | ⟨_, n⟩
      · rcases h0 h2 with ⟨rfl, _⟩ | ⟨_, n⟩
        · rfl
        · exact absurd o2 n
      · exact absurd o1 n
    · rcases List.mem_append.mp z with z | z
      · exact tr b z
      · rw [List.mem_singleton.mp z, ha]; simp
    · rw [List.mem_singleton.mp z]; exact hM
  refine ⟨t, D.ps, D.ev _ _ (hw fs as Qd hS a) M [a] [a] (start N (.ref a :: vs')) H H Go.refl en _ ⟨fun _ _ _ _ _ _ h => h.elim, fun L σ v H' r ρ g R h => ?_, fun _ _ _ _ _ _ h => h, fun _ _ _ _ _ _ h => h⟩⟩
  obtain ⟨d, fs', h1, h2, h3⟩ := h
  have I := R.en
  obtain ⟨us', m1, m2, m3, m4⟩ := I.at_ 0 _ h2
  have an : Same (less H' (M ++ L)) (less H' (a :: M)) := less_anti fun b z => (List.mem_cons.mp z).elim (fun e => by rw [e]; exact List.mem_append_right _ m2) (List.mem_append_left _)
  exact q v H' d us' fs' (fun b o hb z => g.keep b o z (by simpa using hb)) m3 (m4.up an) ((R.dp h1).up an) h3
end
end DC

set_option Elab.async false
set_option linter.all false
set_option maxRecDepth 100000
set_option maxHeartbeats 1000000
namespace DC
open PySem PySem.Spec PyProof.Rows L2

/-! ### operations on ints, on data -/
@[simp] def rdI (F : Int → Int → Int) : D2 := fun d e Q => match d, e with
  | .int i, .int j => Q (.fz (.int (F i j)))
  | _, _ => False
@[simp] def rdIC (C : Int → Int → Prop) (F : Int → Int → Int) : D2 := fun d e Q => match d, e with
  | .int i, .int j => C i j ∧ Q (.fz (.int (F i j)))
  | _, _ => False
@[simp] def rdB (F : Int → Int → Bool) : D2 := fun d e Q => match d, e with
  | .int i, .int j => Q (.fz (.bool (F i j)))
  | _, _ => False
section
variable {K : PySem.W.Frag}
theorem lift_I {F : Int → Int → Int} : Lift2 K (rI0 fun i j => .int (F i j)) (rdI F) := by
  intro M H x y d e Qd tr hx hy h Q q
  unfold rdI at h
  split at h
  · cases hx; cases hy
    exact ⟨_, _, rfl, rfl, q _ H (.fz _) (Same.refl H) (.int _) h⟩
  · exact h.elim
theorem lift_IC {C : Int → Int → Prop} {F : Int → Int → Int} : Lift2 K (rI C fun i j => .int (F i j)) (rdIC C F) := by
  intro M H x y d e Qd tr hx hy h Q q
  unfold rdIC at h
  split at h
  · cases hx; cases hy
    exact ⟨_, _, rfl, rfl, h.1, q _ H (.fz _) (Same.refl H) (.int _) h.2⟩
  · exact h.elim
theorem lift_B {F : Int → Int → Bool} : Lift2 K (rI0 fun i j => .bl (F i j)) (rdB F) := by
  intro M H x y d e Qd tr hx hy h Q q
  unfold rdB at h
  split at h
  · cases hx; cases hy
    exact ⟨_, _, rfl, rfl, q _ H (.fz _) (Same.refl H) (.bl _) h⟩
  · exact h.elim
/-- == : ints, texts, data of any kind -/
@[simp] def eqD (d e : PyData) : Bool := match d, e with
  | .int i, .int j => decide (i = j)
  | .str x, .str y => decide (x = y)
  | .bool x, .bool y => decide (x = y)
  | d, e => PyData.eqv d e
@[simp] def okEq (d e : PyData) : Prop := match d, e with
  | .int _, .int _ => True
  | .str _, .str _ => True
  | .bool _, .bool _ => True
  | d, e => SeqAt.shaped d = true ∧ SeqAt.shaped e = true
@[simp] def rdEq (neg : Bool) : D2 := fun d e Q => okEq d e ∧ Q (.fz (.bool (if neg then !eqD d e else eqD d e)))
def rEqA (K : PySem.W.Frag) : R2 := fun x y H Q => rEq x y H Q ∨ rEqD K x y H Q
def rNeA (K : PySem.W.Frag) : R2 := fun x y H Q => rNe x y H Q ∨ rNeD K x y H Q
theorem op_eqA {X : Cx} (hu : X.A.units + 64 < cLine) : OpR X (compareOp .Eq) (rEqA X.K) := op_eq.or (op_eqD hu)
theorem op_neA {X : Cx} (hu : X.A.units + 64 < cLine) : OpR X (compareOp .NotEq) (rNeA X.K) := op_ne.or (op_neD hu)
theorem lift_eq : Lift2 K (rEqA K) (rdEq false) := by
  intro M H x y d e Qd tr hx hy ⟨ok, h⟩ Q q
  have gen : SeqAt.shaped d = true ∧ SeqAt.shaped e = true → eqD d e = PyData.eqv d e → rEqA K x y H Q := fun s ev => .inr ⟨d, e, hx.up less_sub, hy.up less_sub, s.1, s.2, q _ H (.fz _) (Same.refl H) (.bl _) (by rw [← ev]; exact h)⟩
  unfold okEq at ok
  unfold eqD at h gen
  split at ok
  · cases hx; cases hy
    refine .inl ⟨rfl, q _ H (.fz _) (Same.refl H) (.bl _) ?_⟩
    rename_i i j
    rw [show decide (V.int i = V.int j) = decide (i = j) from decide_eq_decide.mpr ⟨fun z => V.int.inj z, fun z => by rw [z]⟩]
    exact h
  · cases hx; cases hy
    refine .inl ⟨rfl, q _ H (.fz _) (Same.refl H) (.bl _) ?_⟩
    rename_i i j
    rw [show decide (V.str i = V.str j) = decide (i = j) from decide_eq_decide.mpr ⟨fun z => V.str.inj z, fun z => by rw [z]⟩]
    exact h
  · cases hx; cases hy
    refine .inl ⟨rfl, q _ H (.fz _) (Same.refl H) (.bl _) ?_⟩
    rename_i i j
    rw [show decide (V.bl i = V.bl j) = decide (i = j) from decide_eq_decide.mpr ⟨fun z => V.bl.inj z, fun z => by rw [z]⟩]
    exact h
  · rename_i n1 n2 n3
    refine gen ok ?_
    split
    · exact absurd rfl (n1 _ _ rfl)
    · exact absurd rfl (n2 _ _ rfl)
    · exact absurd rfl (n3 _ _ rfl)
    · rfl
theorem lift_ne : Lift2 K (rNeA K) (rdEq true) := by
  intro M H x y d e Qd tr hx hy ⟨ok, h⟩ Q q
  have gen : SeqAt.shaped d = true ∧ SeqAt.shaped e = true → eqD d e = PyData.eqv d e → rNeA K x y H Q := fun s ev => .inr ⟨d, e, hx.up less_sub, hy.up less_sub, s.1, s.2, q _ H (.fz _) (Same.refl H) (.bl _) (by rw [← ev]; exact h)⟩
  unfold okEq at ok
  unfold eqD at h gen
  split at ok
  · cases hx; cases hy
    refine .inl ⟨rfl, q _ H (.fz _) (Same.refl H) (.bl _) ?_⟩
    rename_i i j
    rw [show decide (V.int i = V.int j) = decide (i = j) from decide_eq_decide.mpr ⟨fun z => V.int.inj z, fun z => by rw [z]⟩]
    exact h
  · cases hx; cases hy
    refine .inl ⟨rfl, q _ H (.fz _) (Same.refl H) (.bl _) ?_⟩
    rename_i i j
    rw [show decide (V.str i = V.str j) = decide (i = j) from decide_eq_decide.mpr ⟨fun z => V.str.inj z, fun z => by rw [z]⟩]
    exact h
  · cases hx; cases hy
    refine .inl ⟨rfl, q _ H (.fz _) (Same.refl H) (.bl _) ?_⟩
    rename_i i j
    rw [show decide (V.bl i = V.bl j) = decide (i = j) from decide_eq_decide.mpr ⟨fun z => V.bl.inj z, fun z => by rw [z]⟩]
    exact h
  · rename_i n1 n2 n3
    refine gen ok ?_
    split
    · exact absurd rfl (n1 _ _ rfl)
    · exact absurd rfl (n2 _ _ rfl)
    · exact absurd rfl (n3 _ _ rfl)
    · rfl
/-- an int in a list or a tuple of ints -/
@[simp] def rdIn (neg : Bool) : D2 := fun d e Q => ∃ (i : Int) (ns : List Int), d = .int i ∧ (e = .list (ns.map .int) ∨ e = .tuple (ns.map .int)) ∧ Q (.fz (.bool (if neg then !decide (i ∈ ns) else decide (i ∈ ns))))
theorem inV_ints (i : Int) (ns : List Int) : inV (.int i) (ns.map V.int) = decide (i ∈ ns) := by
  unfold inV
  rw [List.any_map, Bool.eq_iff_iff]
  simp only [List.any_eq_true, decide_eq_true_eq, Function.comp]
  constructor
  · rintro ⟨x, hx, e⟩
    have : x = i := by simpa [eqV] using e
    rw [← this]; exact hx
  · intro h
    exact ⟨i, h, by simp [eqV]⟩
theorem flat_ints (ns : List Int) : (ns.map V.int).all flatV = true := by
  rw [List.all_map, List.all_eq_true]
  intro _ _
  rfl
theorem lift_in {neg : Bool} : Lift2 K (rIn K neg) (rdIn neg) := by
  intro M H x y d e Qd tr hx hy ⟨i, ns, e0, he, h⟩ Q q
  subst e0
  cases hx
  rcases he with rfl | rfl
  · obtain ⟨a, xs, rfl, s, al⟩ := dp_listI hy
    rw [al.intsV] at s
    refine ⟨a, _, rfl, .inl (sql_mono less_sub s), rfl, flat_ints ns, q _ H (.fz (.bool _)) (Same.refl H) (.bl _) ?_⟩
    rw [inV_ints]
    exact h
  · obtain ⟨a, xs, rfl, s, al⟩ := dp_tupI hy
    rw [al.intsV] at s
    refine ⟨a, _, rfl, .inr (sqt_mono less_sub s), rfl, flat_ints ns, q _ H (.fz (.bool _)) (Same.refl H) (.bl _) ?_⟩
    rw [inV_ints]
    exact h
/-- x is None, x is not None -/
@[simp] def isNone : PyData → Bool
  | .none => true
  | _ => false
@[simp] def rdIs (neg : Bool) : D2 := fun d e Q => e = .none ∧ Q (.fz (.bool (if neg then !isNone d else isNone d)))
theorem isNone_of {H : Hp} {x : V} {d : PyData} (h : Dp K H x d) : decide (x = V.non) = isNone d := by
  cases h <;> rfl
theorem lift_isN : Lift2 K (fun x y H Q => y = .non ∧ Q (.bl (decide (x = .non))) H) (rdIs false) := by
  intro M H x y d e Qd tr hx hy ⟨he, h⟩ Q q
  subst he
  cases hy
  refine ⟨rfl, q _ H (.fz (.bool _)) (Same.refl H) (.bl _) ?_⟩
  rw [isNone_of hx]
  exact h
theorem lift_notN : Lift2 K (fun x y H Q => y = .non ∧ Q (.bl (!decide (x = .non))) H) (rdIs true) := by
  intro M H x y d e Qd tr hx hy ⟨he, h⟩ Q q
  subst he
  cases hy
  refine ⟨rfl, q _ H (.fz (.bool _)) (Same.refl H) (.bl _) ?_⟩
  rw [isNone_of hx]
  exact h
/-- an item of a list, a tuple -/
@[simp] def rdIx : D2 := fun d e Q => match d, e with
  | .list ds, .int k => (match atI ds k with
    | some x => Q (.fz x)
    | none => False)
  | .tuple ds, .int k => (match atI ds k with
    | some x => Q (.fz x)
    | none => False)
  | _, _ => False
theorem lift_ix : Lift2 K (rIx K) rdIx := by
  intro M H x y d e Qd tr hx hy h Q q
  unfold rdIx at h
  split at h
  · rename_i ds k
    cases hy
    obtain ⟨a, xs, rfl, s, al⟩ := dp_listI hx
    cases e1 : atI ds k with
    | none => simp only [e1] at h
    | some z =>
      simp only [e1] at h
      obtain ⟨v, k1, k2⟩ := dpAll_atI al e1
      exact .inl ⟨a, xs, k, v, rfl, rfl, sql_mono less_sub s, k1, q v H (.fz z) (Same.refl H) k2 h⟩
  · rename_i ds k
    cases hy
    obtain ⟨a, xs, rfl, s, al⟩ := dp_tupI hx
    cases e1 : atI ds k with
    | none => simp only [e1] at h
    | some z =>
      simp only [e1] at h
      obtain ⟨v, k1, k2⟩ := dpAll_atI al e1
      exact .inr (.inl ⟨a, xs, k, v, rfl, rfl, sqt_mono less_sub s, k1, q v H (.fz z) (Same.refl H) k2 h⟩)
  · exact h.elim
/-- lists, tuples put together -/
@[simp] def rdCatL : D2 := fun d e Q => match d, e with
  | .list ds, .list es => ds.length + es.length ≤ 10000000 ∧ Q (.nl (ds ++ es))
  | _, _ => False
@[simp] def rdCatT : D2 := fun d e Q => match d, e with
  | .tuple ds, .tuple es => ds.length + es.length ≤ 10000000 ∧ Q (.fz (.tuple (ds ++ es)))
  | _, _ => False
@[simp] def rdU (F : Int → Int) : D1 := fun d Q => match d with
  | .int i => Q (.fz (.int (F i)))
  | _ => False
theorem lift_U {F : Int → Int} : Lift1 K (rU fun i => .int (F i)) (rdU F) := by
  intro M H x d Qd tr hx h Q q
  unfold rdU at h
  split at h
  · cases hx
    exact ⟨_, rfl, q _ H (.fz _) (Same.refl H) (.int _) h⟩
  · exact h.elim
/-! ### built-ins -/
@[simp] def rdLen : DCl := fun ds Q => match ds with
  | [.list es] => Q (.fz (.int es.length))
  | [.tuple es] => Q (.fz (.int es.length))
  | [.str s] => s.length ≤ 10000000 ∧ Q (.fz (.int s.length))
  | _ => False
theorem dpAll1 {H : Hp} {xs : List V} {d : PyData} (h : DpAll K H xs [d]) : ∃ v, xs = [v] ∧ Dp K H v d := by
  cases h with
  | cons a b => cases b; exact ⟨_, rfl, a⟩
theorem dpAll2 {H : Hp} {xs : List V} {d e : PyData} (h : DpAll K H xs [d, e]) : ∃ v u, xs = [v, u] ∧ Dp K H v d ∧ Dp K H u e := by
  cases h with
  | cons a b =>
    obtain ⟨u, rfl, c⟩ := dpAll1 b
    exact ⟨_, u, rfl, a, c⟩
theorem lift_len : LiftC K (fun xs H Q => ∃ x n, xs = [x] ∧ LenV K x H n ∧ Q (.int n) H) rdLen := by
  intro M H xs ds Qd tr hx h Q q
  unfold rdLen at h
  split at h
  · obtain ⟨v, rfl, hv⟩ := dpAll1 hx
    obtain ⟨a, ys, rfl, s, al⟩ := dp_listI hv
    refine ⟨_, ys.length, rfl, .inl ⟨ys, sql_mono less_sub s, rfl⟩, q _ H (.fz (.int _)) (Same.refl H) ?_ h⟩
    rw [al.len]
    exact .int _
  · obtain ⟨v, rfl, hv⟩ := dpAll1 hx
    obtain ⟨a, ys, rfl, s, al⟩ := dp_tupI hv
    refine ⟨_, ys.length, rfl, .inr ⟨ys, sqt_mono less_sub s, rfl⟩, q _ H (.fz (.int _)) (Same.refl H) ?_ h⟩
    rw [al.len]
    exact .int _
  · obtain ⟨v, rfl, hv⟩ := dpAll1 hx
    cases hv
    exact ⟨_, _, rfl, ⟨le_line' h.1, rfl⟩, q _ H (.fz (.int _)) (Same.refl H) (.int _) h.2⟩
  · exact h.elim
/-- list(x) -/
@[simp] def rdList : DCl := fun ds Q => match ds with
  | [.list es] => Q (.nl es)
  | [.tuple es] => Q (.nl es)
  | _ => False
theorem lift_list : LiftC K (fun xs H Q => ∃ p ys, xs = [.ref p] ∧ (SqL K H p ys ∨ SqT K H p ys) ∧ ∀ l, H l = none → Q (.ref l) (upd H l (.lst ys))) rdList := by
  intro M H xs ds Qd tr hx h Q q
  unfold rdList at h
  split at h
  · obtain ⟨v, rfl, hv⟩ := dpAll1 hx
    obtain ⟨a, ys, rfl, s, al⟩ := dp_listI hv
    exact ⟨a, ys, rfl, .inl (sql_mono less_sub s), fun l hl => q _ _ _ (new_same hl) (new_lst hl al) h⟩
  · obtain ⟨v, rfl, hv⟩ := dpAll1 hx
    obtain ⟨a, ys, rfl, s, al⟩ := dp_tupI hv
    exact ⟨a, ys, rfl, .inr (sqt_mono less_sub s), fun l hl => q _ _ _ (new_same hl) (new_lst hl al) h⟩
  · exact h.elim
/-- tuple(x) -/
@[simp] def rdTuple : DCl := fun ds Q => match ds with
  | [.list es] => Q (.fz (.tuple es))
  | [.tuple es] => Q (.fz (.tuple es))
  | _ => False
theorem lift_tuple : LiftC K (fun xs H Q => ∃ p ys, xs = [.ref p] ∧ ((SqL K H p ys ∧ ∀ l, H l = none → Q (.ref l) (upd H l (.tup ys))) ∨ (SqT K H p ys ∧ Q (.ref p) H))) rdTuple := by
  intro M H xs ds Qd tr hx h Q q
  unfold rdTuple at h
  split at h
  · rename_i es
    obtain ⟨v, rfl, hv⟩ := dpAll1 hx
    obtain ⟨a, ys, rfl, s, al⟩ := dp_listI hv
    exact ⟨a, ys, rfl, .inl ⟨sql_mono less_sub s, fun l hl => q _ _ (.fz (.tuple es)) (new_same hl) (new_tup tr hl al) h⟩⟩
  · rename_i es
    obtain ⟨v, rfl, hv⟩ := dpAll1 hx
    obtain ⟨a, ys, rfl, s, al⟩ := dp_tupI hv
    exact ⟨a, ys, rfl, .inr ⟨sqt_mono less_sub s, q _ H (.fz (.tuple es)) (Same.refl H) hv h⟩⟩
  · exact h.elim
/-- sum, max, min of a list of ints; all of a list of bools -/
@[simp] def rdSum : DCl := fun ds Q => ∃ ns : List Int, ds = [.list (ns.map .int)] ∧ Q (.fz (.int ns.sum))
@[simp] def rdMax : DCl := fun ds Q => ∃ ns : List Int, ds = [.list (ns.map .int)] ∧ ns ≠ [] ∧ ∀ m ∈ ns, (∀ y ∈ ns, y ≤ m) → Q (.fz (.int m))
@[simp] def rdMin : DCl := fun ds Q => ∃ ns : List Int, ds = [.list (ns.map .int)] ∧ ns ≠ [] ∧ ∀ m ∈ ns, (∀ y ∈ ns, m ≤ y) → Q (.fz (.int m))
@[simp] def rdAll : DCl := fun ds Q => ∃ bs : List Bool, ds = [.list (bs.map .bool)] ∧ Q (.fz (.bool (bs.all id)))
theorem lift_sum : LiftC K (rSum K) rdSum := by
  intro M H xs ds Qd tr hx ⟨ns, e0, h⟩ Q q
  subst e0
  obtain ⟨v, rfl, hv⟩ := dpAll1 hx
  obtain ⟨a, ys, rfl, s, al⟩ := dp_listI hv
  rw [al.intsV] at s
  exact ⟨a, ns, rfl, sql_mono less_sub s, q _ H (.fz (.int _)) (Same.refl H) (.int _) h⟩
theorem lift_max : LiftC K (rMax K) rdMax := by
  intro M H xs ds Qd tr hx ⟨ns, e0, h0, h⟩ Q q
  subst e0
  obtain ⟨v, rfl, hv⟩ := dpAll1 hx
  obtain ⟨a, ys, rfl, s, al⟩ := dp_listI hv
  rw [al.intsV] at s
  exact ⟨a, ns, rfl, sql_mono less_sub s, List.length_pos_iff.mpr h0, fun m hm hy => q _ H (.fz (.int m)) (Same.refl H) (.int _) (h m hm hy)⟩
theorem lift_min : LiftC K (rMin K) rdMin := by
  intro M H xs ds Qd tr hx ⟨ns, e0, h0, h⟩ Q q
  subst e0
  obtain ⟨v, rfl, hv⟩ := dpAll1 hx
  obtain ⟨a, ys, rfl, s, al⟩ := dp_listI hv
  rw [al.intsV] at s
  exact ⟨a, ns, rfl, sql_mono less_sub s, List.length_pos_iff.mpr h0, fun m hm hy => q _ H (.fz (.int m)) (Same.refl H) (.int _) (h m hm hy)⟩
theorem lift_all : LiftC K (rAll K) rdAll := by
  intro M H xs ds Qd tr hx ⟨bs, e0, h⟩ Q q
  subst e0
  obtain ⟨v, rfl, hv⟩ := dpAll1 hx
  obtain ⟨a, ys, rfl, s, al⟩ := dp_listI hv
  rw [al.blsV] at s
  exact ⟨a, bs, rfl, sql_mono less_sub s, q _ H (.fz (.bool _)) (Same.refl H) (.bl _) h⟩
@[simp] def rdMax2 : DCl := fun ds Q => match ds with
  | [.int i, .int j] => Q (.fz (.int (if j > i then j else i)))
  | _ => False
@[simp] def rdMin2 : DCl := fun ds Q => match ds with
  | [.int i, .int j] => Q (.fz (.int (if j < i then j else i)))
  | _ => False
theorem lift_max2 : LiftC K (fun xs H Q => ∃ i j, xs = [.int i, .int j] ∧ Q (.int (if j > i then j else i)) H) rdMax2 := by
  intro M H xs ds Qd tr hx h Q q
  unfold rdMax2 at h
  split at h
  · obtain ⟨v, u, rfl, h1, h2⟩ := dpAll2 hx
    cases h1; cases h2
    exact ⟨_, _, rfl, q _ H (.fz (.int _)) (Same.refl H) (.int _) h⟩
  · exact h.elim
theorem lift_min2 : LiftC K (fun xs H Q => ∃ i j, xs = [.int i, .int j] ∧ Q (.int (if j < i then j else i)) H) rdMin2 := by
  intro M H xs ds Qd tr hx h Q q
  unfold rdMin2 at h
  split at h
  · obtain ⟨v, u, rfl, h1, h2⟩ := dpAll2 hx
    cases h1; cases h2
    exact ⟨_, _, rfl, q _ H (.fz (.int _)) (Same.refl H) (.int _) h⟩
  · exact h.elim
/-- int(n) -/
@[simp] def rdInt : DCl := fun ds Q => match ds with
  | [.int i] => Q (.fz (.int i))
  | [.bool b] => Q (.fz (.int (if b then 1 else 0)))
  | _ => False
theorem lift_int : LiftC K (fun xs H Q => (∃ i, xs = [.int i] ∧ Q (.int i) H) ∨ ∃ k, xs = [.bl k] ∧ Q (.int (if k then 1 else 0)) H) rdInt := by
  intro M H xs ds Qd tr hx h Q q
  unfold rdInt at h
  split at h
  · obtain ⟨v, rfl, h1⟩ := dpAll1 hx
    cases h1
    exact .inl ⟨_, rfl, q _ H (.fz (.int _)) (Same.refl H) (.int _) h⟩
  · obtain ⟨v, rfl, h1⟩ := dpAll1 hx
    cases h1
    exact .inr ⟨_, rfl, q _ H (.fz (.int _)) (Same.refl H) (.int _) h⟩
  · exact h.elim
end
end DC

set_option Elab.async false
set_option linter.all false
set_option maxRecDepth 100000
set_option maxHeartbeats 1000000
namespace DC
open PySem PySem.Spec PyProof.Rows L2

/-! ### lists and tuples put together, lists repeated -/
def rCatS (K : PySem.W.Frag) : R2 := fun x y H Q => ∃ l b xs zs, x = .ref l ∧ y = .ref b ∧ SqL K H l xs ∧ SqL K H b zs ∧ xs.length + zs.length ≤ sizeLine ∧ ∀ p, H p = none → Q (.ref p) (upd H p (.lst (xs ++ zs)))
theorem op_catS {X : Cx} : OpR X (binaryOp .Add) (rCatS X.K) := by
  intro pins s σ H x y v u Q I rx ry h
  obtain ⟨l, b, xs, zs, rfl, rfl, hl, hb, hz, q⟩ := h
  cases rx
  cases ry
  obtain ⟨i1, r1, ⟨o1, n1, e1, c1, d1, w1⟩, _⟩ := I.list hl
  obtain ⟨i2, r2, ⟨o2, n2, e2, c2, d2, w2⟩, _⟩ := I.list hb
  obtain ⟨cl1, dd1, da1, sl1⟩ := o1
  obtain ⟨cl2, dd2, da2, sl2⟩ := o2
  cases c1; cases c2; cases w1; cases w2
  have len1 := r1.length
  have len2 := r2.length
  have ea : i1.toArray ++ i2.toArray = (i1 ++ i2).toArray := by simp
  refine concat_meets ⟨_, e1, rfl⟩ ⟨_, e2, rfl⟩ noFill_list_add seq_list_add PySem.F.slot_list_add PySem.F.entry_list_add (PySem.F.args_list_add_2 _ _) (list_addW l b i1.toArray i2.toArray n1 n2 dd1 dd2 sl1 sl2 (by simp; omega)) ?_
  refine ⟨e1, e2, ?_⟩
  rw [ea]
  exact ⟨.ref _, _, I.lnew (t' := s.toks) (r1.append r2) (by rw [List.length_append]; exact hz), rfl, q _ I.fresh⟩
theorem lift_catL {K : PySem.W.Frag} : Lift2 K (rCatS K) rdCatL := by
  intro M H x y d e Qd tr hx hy h Q q
  unfold rdCatL at h
  split at h
  · obtain ⟨a, xs, rfl, s1, a1⟩ := dp_listI hx
    obtain ⟨b, ys, rfl, s2, a2⟩ := dp_listI hy
    exact ⟨a, b, xs, ys, rfl, rfl, sql_mono less_sub s1, sql_mono less_sub s2, le_line' (by rw [a1.len, a2.len]; exact h.1), fun p hp => q _ _ _ (new_same hp) (new_lst hp (a1.app a2)) h.2⟩
  · exact h.elim
theorem lift_catT {K : PySem.W.Frag} : Lift2 K (rCatA K) rdCatT := by
  intro M H x y d e Qd tr hx hy h Q q
  unfold rdCatT at h
  split at h
  · rename_i ds es
    obtain ⟨a, xs, rfl, s1, a1⟩ := dp_tupI hx
    obtain ⟨b, ys, rfl, s2, a2⟩ := dp_tupI hy
    refine ⟨a, b, xs, ys, rfl, rfl, sqt_mono less_sub s1, sqt_mono less_sub s2, le_line' (by rw [a1.len, a2.len]; exact h.1), fun e => ?_, fun _ e => ?_, fun _ _ p hp => q _ _ (.fz (.tuple (ds ++ es))) (new_same hp) (new_tup tr hp (a1.app a2)) h.2⟩
    · subst e
      have : ds = [] := List.eq_nil_of_length_eq_zero a1.len.symm
      subst this
      exact q _ H (.fz (.tuple es)) (Same.refl H) hy h.2
    · subst e
      have : es = [] := List.eq_nil_of_length_eq_zero a2.len.symm
      subst this
      refine q _ H (.fz (.tuple (ds ++ []))) (Same.refl H) ?_ h.2
      rw [List.append_nil]
      exact hx
  · exact h.elim
section
variable {X : Cx} {pos : Pos}
/-- [c] * n -/
@[simp] def wRep (wa wb : WE) : WE := fun ρ Q => wa ρ fun r1 ρ1 => wb ρ1 fun r2 ρ2 => match r1, r2 with
  | .nl ds, .fz (.int k) => (-(2 ^ 62) ≤ k ∧ k ≤ 1000000 ∧ ds.length ≤ 10) ∧ Q (.nl (List.replicate k.toNat ds).flatten) ρ2
  | _, _ => False
theorem dpAll_rep {K : PySem.W.Frag} {G : Hp} {vs : List V} {ds : List PyData} (h : DpAll K G vs ds) : ∀ n : Nat, DpAll K G (List.replicate n vs).flatten (List.replicate n ds).flatten
  | 0 => .nil
  | n + 1 => by
    rw [List.replicate_succ, List.replicate_succ, List.flatten_cons, List.flatten_cons]
    exact h.app (dpAll_rep h n)
theorem de_rep {a b : Expr} {ta tb : TE} {wa wb : WE} (ha : DE X a ta wa) (hb : DE X b tb wb) : DE X (.BinOp a .Mult b pos) (tOp rRep ta tb) (wRep wa wb) := by
  refine ⟨pe_op op_rep ha.pe hb.pe, fun ρ Q h O L σ H I QV q => ?_⟩
  refine ha.ev ρ _ h O L σ H I _ fun L1 v H1 r1 ρ1 g1 R1 h1 => ?_
  cases r1 with
  | nl ds =>
    obtain ⟨p, us, rfl, f1, f2, I1, f4, f5⟩ := R1
    refine hb.ev ρ1 _ h1 (p :: O) L1 σ H1 I1 _ fun L2 u H2 r2 ρ2 g2 R2 h2 => ?_
    split at h2
    · rename_i ds' k e1
      cases e1
      obtain ⟨⟨k1, k2, k3⟩, h2⟩ := h2
      obtain ⟨I2, hd⟩ := R2
      cases hd
      have pL : p ∉ L1 := fun z => I1.dis p z List.mem_cons_self
      have hp2 := g2.keep p _ f4 pL
      have h5 : DpAll X.K (less H2 (p :: O ++ L2)) us ds := f5.up (Go.less (O := p :: O) g2)
      refine ⟨p, k, us, rfl, rfl, hp2, by omega, by omega, ?_, fun c hc => ?_⟩
      · rw [f5.len]
        have : ds.length * k.toNat ≤ 10 * 1000000 := Nat.mul_le_mul k3 (by omega)
        exact le_line' this
      · have I3 : En X.K O L2 H2 σ ρ2 := I2.drop
        exact q L2 _ _ (.nl _) ρ2 ((g1.trans g2).trans (Go.same (new_same hc))) ((VrOk.rs I3 (new_same hc) (new_lst hc ((dpAll_rep h5 k.toNat).up (less_anti fun b z => List.mem_cons_of_mem _ z)))).back fun b z => (g1.trans g2).free z) h2
    · exact h2.elim
  | _ =>
    refine hb.ev ρ1 _ h1 O L1 σ H1 R1.en _ fun L2 u H2 r2 ρ2 g2 R2 h2 => ?_
    simp only at h2
/-- list(range(n)), list(range(a, b)) -/
@[simp] def rgD (a b : Int) : List PyData := (List.range (b - a).toNat).map fun i => .int (a + (i : Nat))
theorem dpAll_rg {K : PySem.W.Frag} {G : Hp} (a b : Int) : DpAll K G (rgV a b) (rgD a b) := by
  unfold rgV rgD
  have e : ∀ l : List Nat, DpAll K G (l.map fun i => V.int (a + (i : Nat))) (l.map fun i => PyData.int (a + (i : Nat))) := by
    intro l
    induction l with
    | nil => exact .nil
    | cons i l ih => exact .cons (.int _) ih
  exact e _
@[simp] def wListRg1 (wa : WE) : WE := fun ρ Q => wa ρ fun r ρ1 => match r with
  | .fz (.int n) => (0 ≤ n ∧ n ≤ 16777216) ∧ Q (.nl (rgD 0 n)) ρ1
  | _ => False
theorem de_listRg1 {a : Expr} {ta : TE} {wa : WE} {p p2 pos2 : Pos} (hc : X.calm = true) (hg : Gl X "list") (hm : X.mg "list" = none) (hg2 : Gl X "range") (hm2 : X.mg "range" = none) (ha : DE X a ta wa) (na : starEach [a] X.env = (false, eval a X.env) :: starEach [] X.env := by rfl)
    (nb : starEach [.Call (.Name "range" p2) [a] [] pos2] X.env = (false, eval (.Call (.Name "range" p2) [a] [] pos2) X.env) :: starEach [] X.env := by rfl) : DE X (.Call (.Name "list" p) [.Call (.Name "range" p2) [a] [] pos2] [] pos) (tLstRg (tRg1 ta)) (wListRg1 wa) := by
  refine ⟨pe_listRg hc hg hm (prg_1 hg2 hm2 ha.pe na) nb, fun ρ Q h O L σ H I QV q => ?_⟩
  refine ha.ev ρ _ h O L σ H I _ fun L1 v H1 r1 ρ1 g1 R1 h1 => ?_
  split at h1
  · obtain ⟨⟨b1, b2⟩, h1⟩ := h1
    obtain ⟨I1, hd⟩ := R1
    cases hd
    refine ⟨_, rfl, RgOk.of_le (by decide) (by omega) (by decide) (by omega), fun c hc => ?_⟩
    exact q L1 _ _ (.nl _) ρ1 (g1.trans (Go.same (new_same hc))) ((VrOk.rs I1 (new_same hc) (new_lst hc (dpAll_rg _ _))).back fun b z => g1.free z) h1
  · exact h1.elim
/-! ### isinstance of data -/
def tyOf : PyData → String
  | .none => "NoneType"
  | .bool _ => "bool"
  | .int _ => "int"
  | .str _ => "str"
  | .list _ => "list"
  | .tuple _ => "tuple"
  | .dict _ => "dict"
theorem tyX_of {K : PySem.W.Frag} {H : Hp} {v : V} {d : PyData} (h : Dp K H v d) : TyX K H v (.type (tyOf d)) := by
  cases h with
  | non => exact .base .non
  | bl b => exact .base (.bl b)
  | int i => exact .base (.int i)
  | str x => exact .base (.str x)
  | lst s _ =>
    rcases s with (s | ⟨o, s⟩) | ⟨o, its, n, h1, h2, _⟩
    · exact .base (.lst s)
    · exact .base (.frz s)
    · exact .kList h1 h2
  | tup s _ =>
    rcases s with (s | ⟨o, s⟩) | ⟨o, its, n, h1, h2, _⟩
    · exact .base (.tup s)
    · exact .fTuple s
    · exact .kTuple h1 h2
/-- whether data is of a built-in class -/
def isTy (T : String) (d : PyData) : Bool := (kitB (tyOf d) T).getD false
@[simp] def wIsi (T : String) (we : WE) : WE := fun ρ Q => we ρ fun r ρ1 => match r.dat with
  | some d => (kitB (tyOf d) T).isSome = true ∧ Q (.fz (.bool (isTy T d))) ρ1
  | none => False
theorem de_isi {e : Expr} {te : TE} {we : WE} {T : String} {y : Str} {p p2 : Pos} (hg : Gl X "isinstance") (hm : X.mg "isinstance" = none) (hg2 : Gl X y) (hm2 : X.mg y = none) (hv2 : bootBuiltins y = some (.type T)) (he : DE X e te we)
    (hn : y ≠ "__name__" := by decide) (hdb : (y == ("__debug__" : Str)) = false := by decide) (hs : starEach [e, .Name y p2] X.env = (false, eval e X.env) :: starEach [.Name y p2] X.env := by rfl) (hs2 : starEach [.Name y p2] X.env = (false, eval (.Name y p2) X.env) :: starEach [] X.env := by rfl)
    (hpl : (backTo pos (starEach [.Name y p2] X.env)).any (·.1) = false := by rfl) : DE X (.Call (.Name "isinstance" p) [e, .Name y p2] [] pos) (tCB (rIsi X.K) (tCons te (tCons (tC (.ty T)) tNil))) (wIsi T we) := by
  refine ⟨pe_callB call_isi hg hm (by decide +kernel) (pa_cons he.pe (pa_cons (pe_bltn hg2 hm2 hv2 rfl hn hdb) pa_nil hs2) hs) (by decide) (by decide) hs hpl, fun ρ Q h O L σ H I QV q => ?_⟩
  refine he.ev ρ _ h O L σ H I _ fun L1 v H1 r1 ρ1 g1 R1 h1 => ?_
  cases e1 : r1.dat with
  | none => simp only [e1] at h1
  | some d =>
    simp only [e1] at h1
    obtain ⟨k, h1⟩ := h1
    obtain ⟨b, hb⟩ := Option.isSome_iff_exists.mp k
    have eb : isTy T d = b := by unfold isTy; rw [hb]; rfl
    rw [eb] at h1
    exact ⟨v, .ty T, .type (tyOf d), .type T, b, rfl, .ty T, tyX_of ((R1.dp e1).up less_sub), kit_ty hb, q L1 _ H1 _ ρ1 g1 (.f R1.en (.bl b)) h1⟩
/-! ### the text of data -/
@[simp] def rdRepr : DCl := fun ds Q => match ds with
  | [d] => (d.showable = true ∧ d.shown.length ≤ 10000000 ∧ d.depth ≤ 60 ∧ d.hasDict = false) ∧ Q (.fz (.str d.shown))
  | _ => False
def rRepr (K : PySem.W.Frag) : List V → Hp → VK → Prop := fun xs H Q => ∃ v d, xs = [v] ∧ Dp K H v d ∧ d.showable = true ∧ d.shown.length ≤ 10000000 ∧ d.depth ≤ 60 ∧ d.hasDict = false ∧ Q (.str d.shown) H
theorem call_repr {X : Cx} (hgd : X.A.guards = some []) (hu : X.A.units + 64 < cLine) : CallR X (.builtin "repr") (rRepr X.K) := by
  intro pins s σ H xs us Q I r h
  obtain ⟨v, d, rfl, hd, h1, h2, h3, h4, q⟩ := h
  obtain ⟨u, rfl, ru⟩ := vals1 r
  obtain ⟨as, rd⟩ := Dp.reads I d v u hd ru
  have fin : ∀ (h' : Heap) (t : Tok) (tk : Nat), (∀ b o, s.heap.get? b = some o → h'.get? b = some o) → EP X pins σ Q (.str d.shown t) { s with heap := h', toks := tk } := fun h' t tk k => ⟨.str d.shown, H, I.kept k, ⟨t, rfl⟩, q⟩
  have sz : d.shown.length ≤ sizeLine := le_line' h2
  cases hd with
  | non => cases ru; exact PySem.P.repr_of_none (fin s.heap _ _ fun _ _ e => e)
  | bl b => cases ru; exact PySem.P.repr_of_bool (fin s.heap _ _ fun _ _ e => e)
  | int i => obtain ⟨t, rfl⟩ := ru; exact PySem.P.repr_of_int (by simpa [PyData.showable] using h1) (fin s.heap _ _ fun _ _ e => e)
  | str x => obtain ⟨t, rfl⟩ := ru; exact PySem.P.repr_of_str (fin s.heap _ _ fun _ _ e => e) sz
  | lst s1 a1 =>
    cases ru
    exact repr_of_reads' rd h1 (fun z => by rw [h4] at z; cases z) hgd (by omega) (fun _ _ e => e) (fun h' u tk k => fin h' u tk k) sz
  | tup s1 a1 =>
    cases ru
    exact repr_of_reads' rd h1 (fun z => by rw [h4] at z; cases z) hgd (by omega) (fun _ _ e => e) (fun h' u tk k => fin h' u tk k) sz
theorem lift_repr {K : PySem.W.Frag} : LiftC K (rRepr K) rdRepr := by
  intro M H xs ds Qd tr hx h Q q
  unfold rdRepr at h
  split at h
  · obtain ⟨v, rfl, hv⟩ := dpAll1 hx
    obtain ⟨⟨h1, h2, h3, h4⟩, h5⟩ := h
    exact ⟨v, _, rfl, hv.up less_sub, h1, h2, h3, h4, q _ H (.fz (.str _)) (Same.refl H) (.str _) h5⟩
  · exact h.elim
end
end DC

set_option Elab.async false
set_option linter.all false
set_option maxRecDepth 100000
set_option maxHeartbeats 1000000
namespace DC
open PySem PySem.Spec PyProof.Rows L2

/-! ### operators of several kinds -/
@[simp] def rdAdd : D2 := fun d e Q => match d, e with
  | .int i, .int j => Q (.fz (.int (i + j)))
  | .list ds, .list es => ds.length + es.length ≤ 10000000 ∧ Q (.nl (ds ++ es))
  | .tuple ds, .tuple es => ds.length + es.length ≤ 10000000 ∧ Q (.fz (.tuple (ds ++ es)))
  | .str a, .str b => a.length + b.length ≤ 10000000 ∧ Q (.fz (.str (a ++ b)))
  | _, _ => False
def rAddA (K : PySem.W.Frag) : R2 := fun x y H Q => (rI0 fun i j => .int (i + j)) x y H Q ∨ (rCatS K x y H Q ∨ (rCatA K x y H Q ∨ ∃ i j, x = .str i ∧ y = .str j ∧ i.length + j.length ≤ sizeLine ∧ Q (.str (i ++ j)) H))
theorem op_addA {X : Cx} : OpR X (binaryOp .Add) (rAddA X.K) := op_add.or (op_catS.or (op_catA.or op_add_str))
theorem lift_add {K : PySem.W.Frag} : Lift2 K (rAddA K) rdAdd := by
  intro M H x y d e Qd tr hx hy h Q q
  unfold rdAdd at h
  split at h
  · exact .inl (lift_I (K := K) (F := fun i j => i + j) M H x y _ _ Qd tr hx hy h Q q)
  · exact .inr (.inl (lift_catL M H x y _ _ Qd tr hx hy h Q q))
  · exact .inr (.inr (.inl (lift_catT M H x y _ _ Qd tr hx hy h Q q)))
  · cases hx; cases hy
    exact .inr (.inr (.inr ⟨_, _, rfl, rfl, le_line' h.1, q _ H (.fz (.str _)) (Same.refl H) (.str _) h.2⟩))
  · exact h.elim
@[simp] def rdLt : D2 := fun d e Q => match d, e with
  | .int i, .int j => Q (.fz (.bool (decide (i < j))))
  | .tuple ds, .tuple es => ∃ ns ms : List Int, ds = ns.map .int ∧ es = ms.map .int ∧ Q (.fz (.bool (HT.lexLt ns ms)))
  | _, _ => False
def rLtA (K : PySem.W.Frag) : R2 := fun x y H Q => (rI0 fun i j => .bl (decide (i < j))) x y H Q ∨ rLtT K x y H Q
theorem op_ltA {X : Cx} (hu : X.A.units < cLine) : OpR X (compareOp .Lt) (rLtA X.K) := op_lt.or (op_ltT hu)
theorem lift_lt {K : PySem.W.Frag} : Lift2 K (rLtA K) rdLt := by
  intro M H x y d e Qd tr hx hy h Q q
  unfold rdLt at h
  split at h
  · exact .inl (lift_B (K := K) (F := fun i j => decide (i < j)) M H x y _ _ Qd tr hx hy h Q q)
  · obtain ⟨ns, ms, e1, e2, h⟩ := h
    subst e1; subst e2
    obtain ⟨a, xs, rfl, s1, a1⟩ := dp_tupI hx
    obtain ⟨b, ys, rfl, s2, a2⟩ := dp_tupI hy
    rw [a1.intsV] at s1
    rw [a2.intsV] at s2
    exact .inr ⟨a, b, ns, ms, rfl, rfl, sqt_mono less_sub s1, sqt_mono less_sub s2, q _ H (.fz (.bool _)) (Same.refl H) (.bl _) h⟩
  · exact h.elim
@[simp] def rdSl : DSl := fun d lo hi Q => match d with
  | .list ds => Q (.nl (cutP ds lo hi))
  | .tuple ds => Q (.fz (.tuple (cutP ds lo hi)))
  | _ => False
def rSlX (K : PySem.W.Frag) : V → Option Int → Option Int → Hp → VK → Prop := fun x lo hi H Q => rSlL K x lo hi H Q ∨ rSlA K x lo hi H Q
theorem sl_any {X : Cx} : SlR X (rSlX X.K) := sl_list.or sl_tupA
theorem lift_sl {K : PySem.W.Frag} : LiftS K (rSlX K) rdSl := by
  intro M H x d lo hi Qd tr hd h Q q
  unfold rdSl at h
  split at h
  · exact .inl (lift_slL M H x _ lo hi Qd tr hd h Q q)
  · exact .inr (lift_slT M H x _ lo hi Qd tr hd h Q q)
  · exact h.elim

/-! ### what stands in the module -/
structure Cal (P : Program) (w : World) (K : PySem.W.Frag) (mg : Str → Option Value) (base : Heap) (x : Str) (k : Nat) (f : Addr) (fd : FuncData) (ps : List Str) (sp : Sp) : Prop where
  ok : FnG P w K mg base k f fd ps sp
  gm : mg x = some (.ref f)
  kp : PySem.W.keepIn K (.ref f) = true
  bd : Binds K fd ps []
/-- the built-ins' names are not taken -/
structure Blt (mg : Str → Option Value) : Prop where
  len : mg "len" = none
  all : mg "all" = none
  zip : mg "zip" = none
  range : mg "range" = none
  list : mg "list" = none
  tuple : mg "tuple" = none
  sorted : mg "sorted" = none
  set : mg "set" = none
  max : mg "max" = none
  min : mg "min" = none
  sum : mg "sum" = none
  int : mg "int" = none
  repr : mg "repr" = none
  enumerate : mg "enumerate" = none
  isinstance : mg "isinstance" = none
  bool : mg "bool" = none
section
variable {X : Cx} {pos : Pos} {e o : Expr} {es : List Expr} {te : TE} {we : WE} {ta : TA} {wa : WA}
theorem c_p {x : Str} {k : Nat} {f : Addr} {fd : FuncData} {ps : List Str} {S : SPc} {p : Pos} (C : Cal X.prog X.w X.K X.mg X.base x k f fd ps (spP X.K S)) (hgd : X.A.guards = some []) (hr : Room k X.A) (ha : DA X (e :: es) ta wa) (hg : Gl X x := by rfl) (hdb : (x == ("__debug__" : Str)) = false := by decide)
    (he : starEach (e :: es) X.env = (false, eval e X.env) :: starEach es X.env := by rfl) (hpl : (backTo pos (starEach es X.env)).any (·.1) = false := by rfl) : DE X (.Call (.Name x p) (e :: es) [] pos) (tCall (spP X.K S) [] E0 ta) (wCallP S wa) := de_callP C.ok hgd hr hg C.gm C.kp C.bd ha hdb he hpl
theorem c_f (i : Nat) {x y : Str} {k : Nat} {f : Addr} {fd : FuncData} {ps : List Str} {S : SFc} {p p2 : Pos} (C : Cal X.prog X.w X.K X.mg X.base x k f fd ps (spF X.K S)) (hgd : X.A.guards = some []) (hr : Room k X.A) (ha : DA X es ta wa) (hg : Gl X x := by rfl) (hN : X.N[i]? = some y := by rfl)
    (hv : Vis X.env.scope y := by first | exact Or.inl rfl | exact Or.inr (Or.inl rfl) | exact Or.inr (Or.inr rfl)) (hd : (y == ("__debug__" : Str)) = false := by decide) (hcd : (y == ("__classdict__" : Str)) = false := by decide) (hdb : (x == ("__debug__" : Str)) = false := by decide)
    (he : starEach (.Name y p2 :: es) X.env = (false, eval (.Name y p2) X.env) :: starEach es X.env := by rfl) (hpl : (backTo pos (starEach es X.env)).any (·.1) = false := by rfl) :
    DE X (.Call (.Name x p) (.Name y p2 :: es) [] pos) (tCall (spF X.K S) [] E0 (tCons (tVar i) ta)) (wCallF S i wa) := de_callF i C.ok hgd hr hg C.gm C.kp C.bd ha hN hv hd hcd hdb he hpl
end
end DC

set_option Elab.async false
set_option linter.all false
set_option maxRecDepth 100000
set_option maxHeartbeats 1000000
namespace DC
open PySem PySem.Spec PyProof.Rows L2

abbrev rdSub : D2 := rdI fun i j => i - j
abbrev rdAddI : D2 := rdI fun i j => i + j
abbrev rdMul : D2 := rdIC IntMulOk fun i j => i * j
abbrev rdFdiv : D2 := rdIC CDivW fun i j => i / j
abbrev rdMod : D2 := rdIC (fun _ j => 0 < j) fun i j => i % j
abbrev rdPow : D2 := rdIC CPow fun i j => i ^ j.toNat
abbrev rdShl : D2 := rdIC CPow fun i j => i * 2 ^ j.toNat
abbrev rdShr : D2 := rdIC (fun _ j => 0 ≤ j) fun i j => i / 2 ^ j.toNat
abbrev rdAnd : D2 := rdI Builtin.bitAnd
abbrev rdOr : D2 := rdI Builtin.bitOr
abbrev rdInv : D1 := rdU Builtin.bitNot
abbrev rdNeg : D1 := rdU fun i => -i
abbrev rdLe : D2 := rdB fun i j => decide (i ≤ j)
abbrev rdGt : D2 := rdB fun i j => decide (j < i)
abbrev rdGe : D2 := rdB fun i j => decide (j ≤ i)
theorem op_mulY {X : Cx} : OpR X (binaryOp .Mult) (rI IntMulOk fun i j => .int (i * j)) := opI fun _ _ _ _ _ _ _ hc q => mul_int q hc
theorem units1 {k : Nat} {A : Around} (r : Room k A) : A.units + 1 < cLine := by have := r.un; omega
theorem owns {P : Program} {w : World} {K : PySem.W.Frag} {mg : Str → Option Value} {base : Heap} {N : List Str} {qual : Str} {scope : Scope} {f : Addr} {cd : Value} {A : Around} {outer : List Env} {s : Shared} {H : Hp} :
    PassesOwn (model P w) (cxOf CX0 P w K mg base N qual scope f cd A outer s H E0).A (cxOf CX0 P w K mg base N qual scope f cd A outer s H E0).env (cxOf CX0 P w K mg base N qual scope f cd A outer s H E0).xe :=
  PassesOwn.leaving
section
variable {X : Cx} {pos : Pos} {a b : Expr} {ta tb : TE} {wa wb : WE}
theorem de_ix (ha : DE X a ta wa) (hb : DE X b tb wb) (hs : PlainIx b) : DE X (.Subscript a b pos) (tOp (rIx X.K) ta tb) (wOp rdIx wa wb) :=
  ⟨pe_ix ix_seq ha.pe hb.pe hs, ev_op lift_ix ha.ev hb.ev⟩
/-- x, y = a, b with names that a comprehension holds: stored from the left -/
theorem ps_parC {i j : Nat} {x y : Str} {ta : TA} {px py pt : Pos} {kt k2 pt2} (hc : X.calm = true) (hN : X.N.Nodup) (hi : X.N[i]? = some x) (hj : X.N[j]? = some y) (hx : Loc X.env.scope x) (hy : Loc X.env.scope y) (ha : PA X [a, b] ta)
    (hw : swappedStores [.Tuple [.Name x px, .Name y py] kt pt] (.Tuple [a, b] k2 pt2) X.env = pure none) (hs : swapsWithSole [.Tuple [.Name x px, .Name y py] kt pt] (.Tuple [a, b] k2 pt2) pos.line X.env = pure false)
    (h1 : (assignEach [.Tuple [.Name x px, .Name y py] kt pt] X.env).map (·.2) = [assign (.Tuple [.Name x px, .Name y py] kt pt) X.env]) (hn : (assignEach [.Name x px, .Name y py] X.env).length = 2) (hst : (assignEach [.Name x px, .Name y py] X.env).findIdx? (·.1) = none)
    (h2 : (assignEach [.Name x px, .Name y py] X.env).map (·.2) = [assign (.Name x px) X.env, assign (.Name y py) X.env])
    (fx : X.fn x = true ∨ X.env.scope.names.lookup x = some .local) (fy : X.fn y = true ∨ X.env.scope.names.lookup y = some .local) :
    PS X (.Assign [.Tuple [.Name x px, .Name y py] kt pt] (.Tuple [a, b] k2 pt2) pos) (tPar i j ta) := by
  refine ⟨fun pins s σ H D I h => ?_⟩
  refine wpAny_Assign_stores (Tuple_ (thn (ha.run _ pins s σ H _ I h) fun us s1 ⟨vs, H1, I1, r1, q1⟩ => ?_)) hs hw
  obtain ⟨v, w, e1, q1⟩ := q1
  subst e1
  obtain ⟨u1, u2, rfl, rv, rw'⟩ : ∃ u1 u2, us = [u1, u2] ∧ RelV v u1 ∧ RelV w u2 := by
    cases r1 with
    | cons p q =>
      cases q with
      | cons p' q' =>
        cases q'
        exact ⟨_, _, rfl, p, p'⟩
  refine wpAny_newObj_type ?_ (by show 2 ≤ sizeLine; decide)
  have I2 : Inv X pins σ H1 { s1 with heap := s1.heap.push { cls := .type "tuple", data := .seq [u1, u2].toArray } } := I1.kept (t' := s1.toks) fun b o e => Heap.get?_push_of_some _ e
  rw [h1]
  show wpAny (model X.prog X.w) X.A (assign (.Tuple [.Name x px, .Name y py] kt pt) X.env (.ref s1.heap.objs.size)) _ _ _
  refine assign_Tuple_tuple (items := #[u1, u2]) (I.ok.hd hc) (IsTup.new s1.heap _) (by simp [hn]) hst fun h' hx' => ?_
  have I3 := I2.kept (h' := h') (t' := s1.toks) fun b o e => hx' b o (Nat.ne_of_lt (Heap.lt_size e)) e
  rw [h2]
  show wpAny _ _ (assignInOrder [assign (.Name x px) X.env, assign (.Name y py) X.env] [u1, u2]) _ _ _
  refine assignInOrder_cons (wpAny_assign_Name (store_ok I3 hN hi hx rv (fun s3 I4 => ?_) fx))
  exact assignInOrder_cons (wpAny_assign_Name (store_ok I4 hN hj hy rw' (fun s4 I5 => assignInOrder_nil ⟨_, H1, I5, q1⟩) fy))
theorem ds_parC {i j : Nat} {x y : Str} {ta : TA} {wr : WR} {px py pt : Pos} {kt k2 pt2} (hc : X.calm = true) (hN : X.N.Nodup) (hi : X.N[i]? = some x) (hj : X.N[j]? = some y) (hx : Loc X.env.scope x) (hy : Loc X.env.scope y) (ha : DR X [a, b] ta wr)
    (fx : X.fn x = true) (fy : X.fn y = true) (hw : swappedStores [.Tuple [.Name x px, .Name y py] kt pt] (.Tuple [a, b] k2 pt2) X.env = pure none := by rfl) (hs : swapsWithSole [.Tuple [.Name x px, .Name y py] kt pt] (.Tuple [a, b] k2 pt2) pos.line X.env = pure false := by rfl)
    (h1 : (assignEach [.Tuple [.Name x px, .Name y py] kt pt] X.env).map (·.2) = [assign (.Tuple [.Name x px, .Name y py] kt pt) X.env] := by rfl) (hn : (assignEach [.Name x px, .Name y py] X.env).length = 2 := by rfl) (hst : (assignEach [.Name x px, .Name y py] X.env).findIdx? (·.1) = none := by rfl)
    (h2 : (assignEach [.Name x px, .Name y py] X.env).map (·.2) = [assign (.Name x px) X.env, assign (.Name y py) X.env] := by rfl) :
    DS X (.Assign [.Tuple [.Name x px, .Name y py] kt pt] (.Tuple [a, b] k2 pt2) pos) (tPar i j ta) (wPar [i, j] wr) := by
  refine ⟨ps_parC hc hN hi hj hx hy ha.pa hw hs h1 hn hst h2 (.inl fx) (.inl fy), fun ρ D h O L0 L σ H0 H g I E l => ?_⟩
  refine ha.ev ρ _ h O L σ H I _ fun L1 vs H1 ps rs ρ1 g1 I1 nd no pn ⟨hl, h1⟩ => ?_
  have hv := pn.len.trans hl
  obtain ⟨L', I', s⟩ := En.sets (is := [i, j]) hv.symm I1 nd no pn
  match vs, hv with
  | [v, u], _ => exact ⟨v, u, rfl, l.nx L' _ H1 _ (g.trans ⟨g1.keep, fun a z => (s a z).elim (g1.gr a) .inr, g1.st⟩) I' h1⟩
/-! ### methods, keywords -/
variable {k : Nat} {f C : Addr} {fd : FuncData} {ps : List Str} {x m : Str} {p apos kpos : Pos} {e o : Expr} {es : List Expr} {to te : TE} {wo we : WE} {tas : TA} {was : WA} {S : SPc}
theorem c_m {pl : Sem Bool} (F : FnG X.prog X.w X.K X.mg X.base k f fd ps (spP X.K S)) (hb : Binds X.K fd ps []) (c : Cls X.K C) (hm : Meth X.K C m f) (hgd : X.A.guards = some []) (hr : Room k X.A) (ho : DE X o to wo) (ha : DA X (e :: es) tas was)
    (hst : starEach (e :: es) X.env = (false, eval e X.env) :: starEach es X.env := by rfl) (hpl : (backTo pos (starEach es X.env)).any (·.1) = false := by rfl)
    (ht : eval (.Call (.Attribute o m apos) (e :: es) [] pos) X.env = (do
      let ov ← eval o X.env
      standAt apos.atName
      let (f, first) ← holding [ov] (getMethod ov m pl)
      callWith pos f first (backTo pos (starEach (e :: es) X.env)) (backToKw pos (keywordEach [] X.env))) := by rfl) :
    DE X (.Call (.Attribute o m apos) (e :: es) [] pos) (tMeth C m (spP X.K S) [] E0 to tas) (wMeth C m S wo was) := by
  refine ⟨pe_methG ho.pe c hm F hgd hr hb ha.pa hst hpl ht, fun ρ Q h O L σ H I QV q => ?_⟩
  refine ho.ev ρ _ h O L σ H I _ fun L1 v H1 r1 ρ1 g1 R1 h1 => ?_
  cases r1 with
  | ob C' fs =>
    obtain ⟨⟨rfl, hn⟩, h1⟩ := h1
    obtain ⟨I1, ob⟩ := R1
    obtain ⟨p, dx, vs, rfl, hp, hf, hg⟩ := id ob
    refine ⟨p, dx, vs, rfl, less_sub _ _ hp, hg _ hn, ?_⟩
    refine ha.ev ρ1 _ h1 O L1 σ H1 I1 _ fun L2 vs2 H2 ss ρ2 g2 I2 a2 h2 => ?_
    refine ⟨O ++ L2, .ob C' fs :: ss, _, I2.tr, ?_, h2, fun v H' r s1 ok hq => ?_⟩
    · show ArAll X.K _ (V.ref p :: (vs2 ++ [])) _
      rw [List.append_nil]
      exact .cons (ob.up g2.less) a2
    · exact q L2 v H' r ρ2 ((g1.trans g2).trans (Go.same s1)) ((VrOk.rs I2 s1 ok).back fun p z => (g1.trans g2).free z) hq
  | _ => exact h1.elim
theorem run_gk {pins : List (Addr × Obj)} {σ : L2.St} {H : Hp} {s : Shared} {Q : VK} {ks : List Str} {ws : List Value} {zs : List V} {sp : Sp} (F : FnG X.prog X.w X.K X.mg X.base k f fd ps sp) (hgd : X.A.guards = some []) (hr : Room k X.A) (hb : BindsTo s fd ⟨[], ks.zip ws⟩ (ps.zip ws))
    (I : Inv X pins σ H s) (r : Vals zs ws) (h : sp zs H Q E0) : wpAny (model X.prog X.w) X.A (call (.ref f) [] (ks.zip ws)) (EP X pins σ Q) X.xe s := by
  apply wpAny_call
  apply codeAny_mono (run_g F hgd hr hb I r h)
  intro r s' hq
  match r, hq with
  | .ok (.ret u), hq => exact hq
  | .error _, hq => exact hq
/-- f(x = e), the one parameter by its name -/
theorem c_k1 {y : Str} (F : FnG X.prog X.w X.K X.mg X.base k f fd [y] (spP X.K S)) (hk : PySem.W.keepIn X.K (.ref f) = true) (hb : ∀ (s : Shared) (u : Value), BindsTo s fd ⟨[], [(y, u)]⟩ [(y, u)]) (hm : X.mg x = some (.ref f)) (hgd : X.A.guards = some []) (hr : Room k X.A) (he : DE X e te we)
    (hg : Gl X x := by rfl) (hdb : (x == ("__debug__" : Str)) = false := by decide) (hall : (backToKw pos (keywordEach [⟨some y, e, kpos⟩] X.env)).all (·.1.isSome) = true := by rfl) (hks : (backToKw pos (keywordEach [⟨some y, e, kpos⟩] X.env)).filterMap (·.1) = [y] := by rfl)
    (hpl : ((backTo pos (starEach [] X.env)).any (·.1) || (backToKw pos (keywordEach [⟨some y, e, kpos⟩] X.env)).any (·.1.isNone)) = false := by rfl) :
    DE X (.Call (.Name x p) [] [⟨some y, e, kpos⟩] pos) (tCall (spP X.K S) [] E0 (tCons te tNil)) (wCallP S (wCons we wNil)) := by
  refine ⟨⟨fun pins s σ H Q I h => ?_⟩, ev_callP fun ρ Q h O L σ H I QV q => ?_⟩
  · refine wpAny_Call_Name_kw (ld_glob I hg hm ?_ hdb)
    refine PySem.W.callWith_KW0 (h₀ := X.base) I.ok.mod.kin hk hall ?_ hpl
    refine thn ((pk_cons he.pe pk_nil).run pos pins s σ H _ I h) fun ws s2 ⟨zs, H2, I2, rz, q2⟩ => ⟨I2.kIn, ?_⟩
    rw [hks]
    replace q2 : spP X.K S (zs ++ []) H2 Q E0 := q2
    rw [List.append_nil] at q2
    have hl : ws.length = 1 := rz.length.symm.trans (F.len _ _ _ _ q2)
    match ws, hl with
    | [u], _ => exact run_gk (ks := [y]) F hgd hr (hb s2 u) I2 rz q2
  · refine he.ev ρ _ h O L σ H I _ fun L1 v H1 r1 ρ1 g1 R1 h1 => ?_
    cases e1 : r1.arg with
    | none => simp only [e1] at h1
    | some s =>
      simp only [e1] at h1
      exact q L1 [v] H1 [s] ρ1 g1 R1.en (.cons (R1.ar e1) .nil) h1
end
end DC

set_option Elab.async false
set_option linter.all false
set_option maxRecDepth 100000
set_option maxHeartbeats 1000000
namespace DC
open PySem PySem.Spec PyProof.Rows L2

/-! ### sorted(xs) of data -/
def sortedD (ds : List PyData) : List PyData := ds.mergeSort (PySem.W.dataLe false id)
def SortOk (ds : List PyData) : Prop := PySem.W.AllAlike ds ∧ PySem.W.Sortable ds ∧ ds.length ≤ 10000000 ∧ ∀ d ∈ ds, d.depth ≤ 60
def rSortedG (K : PySem.W.Frag) : List V → Hp → VK → Prop := fun xs H Q => ∃ (v : V) (ds : List PyData) (G : Hp), xs = [v] ∧ Same G H ∧ Dp K G v (.list ds) ∧ SortOk ds ∧ ∀ (ys : List V) (p : Addr), DpAll K G ys (sortedD ds) → H p = none → Q (.ref p) (upd H p (.lst ys))
theorem each_of {K : PySem.W.Frag} {G : Hp} : ∀ {xs : List V} {us : List Value} {ds : List PyData}, Vals xs us → DpAll K G xs ds → PySem.W.EachIs (fun u d => ∃ x, RelV x u ∧ Dp K G x d) us ds
  | [], [], [], .nil, .nil => .nil
  | _ :: _, _ :: _, _ :: _, .cons r rs, .cons d dl => .cons ⟨_, r, d⟩ (each_of rs dl)
theorem of_each {K : PySem.W.Frag} {G : Hp} : ∀ {us : List Value} {ds : List PyData}, PySem.W.EachIs (fun u d => ∃ x, RelV x u ∧ Dp K G x d) us ds → ∃ xs, Vals xs us ∧ DpAll K G xs ds
  | _, _, .nil => ⟨[], .nil, .nil⟩
  | _, _, .cons ⟨x, r, d⟩ t => let ⟨xs, r2, d2⟩ := of_each t; ⟨x :: xs, .cons r r2, .cons d d2⟩
theorem cr_sortedD {X : Cx} (hu : X.A.units + 64 < cLine) : CallR X (.builtin "sorted") (rSortedG X.K) := by
  intro pins s σ H xs us Q I r h
  obtain ⟨v, ds, G, rfl, sG, hd, ⟨o1, o2, o3, o4⟩, q⟩ := h
  obtain ⟨a, ys, rfl, hs, al⟩ := dp_listI hd
  obtain ⟨its, rv, hl, _⟩ := I.list (sql_mono sG hs)
  rw [Vals.ref1 r]
  have e1 := each_of rv al
  have er : PySem.W.EachIs (fun u d => ∃ as, Reads s.heap u (id d) as) its ds := e1.mono fun u d ⟨x, hx, hd⟩ => Dp.reads I d x u (hd.up sG) hx
  refine PySem.W.sorted_data (enc := id) hl.isList e1 er (by rw [List.map_id]; exact o1) (by rw [List.map_id]; exact o2) (le_line' o3) (fun b hb => by have := o4 b hb; show _ + b.depth < _; omega) fun out ho eo => ?_
  obtain ⟨zs, rz, dz⟩ := of_each eo
  obtain ⟨ep, he'⟩ := PyProof.Rows.sortedAll_at s.heap its out.toArray
  have hlen : zs.length ≤ sizeLine := by rw [rz.length, ho]; exact le_line' o3
  exact ⟨.ref _, upd H (s.heap.objs.size + 1) (.lst zs), I.laid (t' := s.toks) (fun _ _ => PyProof.Rows.sortedAll_old) (Nat.le_succ _) ⟨hlen, out, ep, rz, he'⟩, rfl, q zs _ dz (I.hok.fresh (Nat.le_succ _))⟩
@[simp] def rdSorted : DCl := fun ds Q => match ds with
  | [.list es] => SortOk es ∧ Q (.nl (sortedD es))
  | _ => False
theorem lift_sorted {K : PySem.W.Frag} : LiftC K (rSortedG K) rdSorted := by
  intro M H xs ds Qd tr hx h Q q
  unfold rdSorted at h
  split at h
  · obtain ⟨v, rfl, hv⟩ := dpAll1 hx
    exact ⟨v, _, less H M, rfl, less_sub, hv, h.1, fun ys p hy hp => q _ _ (.nl _) (new_same hp) (new_lst hp hy) h.2⟩
  · exact h.elim
theorem sortedD_ints (ns : List Int) : sortedD (ns.map .int) = (ns.mergeSort fun a b => decide (a ≤ b)).map .int := by
  unfold sortedD
  rw [List.map_mergeSort (r := fun a b => decide (a ≤ b)) (s := PySem.W.dataLe false id)]
  intro a _ b _
  have := congrFun (congrFun (PySem.W.dataLe_int (β := Int) id) a) b
  exact this.symm
theorem sortOk_ints (ns : List Int) (h : ns.length ≤ 10000000) : SortOk (ns.map .int) := by
  refine ⟨PySem.W.AllAlike.of fun b b' => by simp [PySem.W.alike], PySem.W.Sortable.others fun b => ⟨by simp, by simp⟩, by rw [List.length_map]; exact h, fun d hd => ?_⟩
  obtain ⟨n, _, rfl⟩ := List.mem_map.mp hd
  simp [PyData.depth]
/-! ### sorted(set(xs)) of tuples of ints -/
def intsT (ns : List Int) : PyData := .tuple (ns.map .int)
@[simp] def wSortedSet (we : WE) : WE := fun ρ Q => we ρ fun r ρ1 => match r.dat with
  | some (.list ds) => ∃ (d : Nat) (B : Int) (nss : List (List Int)), ds = nss.map intsT ∧ nss.length < 64 ∧ 1 ≤ d ∧ (∀ ns ∈ nss, ns.length = d ∧ TS.Bd B ns) ∧ ∀ ms : List (List Int), (∀ ns, ns ∈ ms ↔ ns ∈ nss) → ms.Nodup → ms.Pairwise (fun a b => TS.code B a ≤ TS.code B b) → Q (.nl (ms.map intsT)) ρ1
  | _ => False
theorem tups_of {K : PySem.W.Frag} {G : Hp} : ∀ {xs : List V} {nss : List (List Int)}, DpAll K G xs (nss.map intsT) → ∃ ks : List (Addr × List Int), xs = ks.map (fun p => V.ref p.1) ∧ ks.map (·.2) = nss ∧ ∀ p ∈ ks, SqT K G p.1 (p.2.map V.int)
  | _, [], .nil => ⟨[], rfl, rfl, fun _ h => nomatch h⟩
  | _, ns :: nss, .cons d dl => by
    obtain ⟨a, ys, rfl, s, al⟩ := dp_tupI (show Dp K G _ (.tuple (ns.map .int)) from d)
    rw [al.intsV] at s
    obtain ⟨ks, rfl, rfl, h⟩ := tups_of dl
    refine ⟨(a, ns) :: ks, rfl, rfl, fun p hp => ?_⟩
    rcases List.mem_cons.mp hp with rfl | hp
    · exact s
    · exact h p hp
theorem dps_of {K : PySem.W.Frag} {G : Hp} : ∀ {ks : List (Addr × List Int)}, (∀ p ∈ ks, SqT K G p.1 (p.2.map V.int)) → DpAll K G (ks.map fun p => V.ref p.1) ((ks.map (·.2)).map intsT)
  | [], _ => .nil
  | p :: ks, h => .cons (.tup (h p List.mem_cons_self) (DpAll.ints p.2)) (dps_of fun q hq => h q (List.mem_cons_of_mem _ hq))
theorem de_sortedSet {X : Cx} {e : Expr} {te : TE} {we : WE} {p p2 pos pos2 : Pos} (hc : X.calm = true) (hu : X.A.units + 64 < cLine) (hg : Gl X "sorted") (hm : X.mg "sorted" = none) (hg2 : Gl X "set") (hm2 : X.mg "set" = none) (he : DE X e te we)
    (hs : starEach [e] X.env = (false, eval e X.env) :: starEach [] X.env := by rfl)
    (hs2 : starEach [.Call (.Name "set" p2) [e] [] pos2] X.env = (false, eval (.Call (.Name "set" p2) [e] [] pos2) X.env) :: starEach [] X.env := by rfl) :
    DE X (.Call (.Name "sorted" p) [.Call (.Name "set" p2) [e] [] pos2] [] pos) (tCB (rSortedT X.K X.prog X.w) (tCons (tCB (rSetOfT X.K X.prog X.w) (tCons te tNil)) tNil)) (wSortedSet we) := by
  refine ⟨pe_callB (cr_sortedT hc) hg hm boot_sorted (pa_cons (pe_callTy (cr_setOfT hc hu) hg2 hm2 boot_set (pa_cons he.pe pa_nil hs) (by decide) (by decide) hs rfl) pa_nil hs2) (by decide) (by decide) hs2 rfl, fun ρ Q h O L σ H I QV q => ?_⟩
  refine he.ev ρ _ h O L σ H I _ fun L1 v H1 r1 ρ1 g1 R1 h1 => ?_
  cases e1 : r1.dat with
  | none => simp only [e1] at h1
  | some d =>
    simp only [e1] at h1
    split at h1
    · rename_i ds hds
      cases hds
      obtain ⟨d, B, nss, rfl, h64, hd, hB, h1⟩ := h1
      obtain ⟨a, xs, rfl, s1, al⟩ := dp_listI (R1.dp e1)
      obtain ⟨ks, rfl, rfl, hk⟩ := tups_of al
      refine ⟨a, ks, rfl, sql_mono less_sub s1, fun p hp => sqt_mono less_sub (hk p hp), by simpa using h64, fun b Ls hb hL1 hL2 => ?_⟩
      have s2 : Same H1 (upd H1 b (SetTO X.prog X.w b Ls)) := new_same hb
      have hLk : ∀ p ∈ Ls, SqT X.K (less H1 (O ++ L1)) p.1 (p.2.map V.int) := fun p hp => hk p (hL1 p hp)
      refine ⟨b, Ls, d, B, rfl, upd_same, fun p hp => sqt_mono s2 (sqt_mono less_sub (hLk p hp)), hd, fun p hp => hB p.2 (List.mem_map.mpr ⟨p, hL1 p hp, rfl⟩), fun Ls' c pm nd few pw hc => ?_⟩
      have s3 : Same H1 (upd (upd H1 b (SetTO X.prog X.w b Ls)) c (.lst (Ls'.map fun q => V.ref q.1))) := fun x o z => new_same hc x o (s2 x o z)
      have hc1 : H1 c = none := by
        by_cases z : c = b
        · rw [z]; exact hb
        · rw [upd_ne z] at hc; exact hc
      have hd' : DpAll X.K (less H1 (O ++ L1)) (Ls'.map fun q => V.ref q.1) ((Ls'.map (·.2)).map intsT) := dps_of fun p hp => hLk p (pm.mem_iff.mp hp)
      have vo : VrOk X.K (O ++ L1) H1 (upd (upd H1 b (SetTO X.prog X.w b Ls)) c (.lst (Ls'.map fun q => V.ref q.1))) (V.ref c) (.nl ((Ls'.map (·.2)).map intsT)) := ⟨c, _, rfl, hc1, upd_same, hd'.up fun x o z => by
        obtain ⟨z1, z2⟩ := less_some z
        have ne : x ≠ c := ne_of_none z2 hc1
        rw [less_out]
        · exact s3 x o z2
        · intro w
          exact (List.mem_cons.mp w).elim ne z1⟩
      refine q L1 _ _ (.nl ((Ls'.map (·.2)).map intsT)) ρ1 (g1.trans (Go.same s3)) ((VrOk.rs R1.en s3 vo).back fun p z => g1.free z) (h1 _ (fun ns => ?_) nd (List.pairwise_map.mpr pw))
      · constructor
        · intro hn
          obtain ⟨p, hp, rfl⟩ := List.mem_map.mp hn
          exact List.mem_map.mpr ⟨p, hL1 p (pm.mem_iff.mp hp), rfl⟩
        · intro hn
          obtain ⟨p, hp, rfl⟩ := List.mem_map.mp hn
          have := hL2 p hp
          obtain ⟨q, hq, e⟩ := List.mem_map.mp this
          exact List.mem_map.mpr ⟨q, pm.mem_iff.mpr hq, e⟩
    · exact h1.elim
end DC

set_option Elab.async false
set_option linter.all false
set_option maxRecDepth 100000
set_option maxHeartbeats 1000000
/-! enumerate of a tuple -/
namespace DC
open PySem PySem.Spec PyProof.Rows
open Sem (wp)
open AutoSeq1 (wpAny_loadPart')

theorem meets_enumT (l : Addr) (items : Array Value) (n : Nat) (dct : Option Addr) (sl : Array (Option Value)) :
    Meets (Builtin.«enumerate.__new__» ⟨[.type "enumerate", .ref l], []⟩) (fun _ R s => s.heap.get? l = some { cls := .type "tuple", dict := dct, data := .seq items n, slots := sl } ∧
      R (.ok (.ret (.ref (s.heap.push { cls := .type "tuple_iterator", data := .fields #[.ref l, .int 0 0] }).objs.size)))
        { s with heap := (s.heap.push { cls := .type "tuple_iterator", data := .fields #[.ref l, .int 0 0] }).push { cls := .type "enumerate", data := .fields #[.none, .bool false, .ref s.heap.objs.size, rawInt 0, .none, .none] } }) :=
  .of_wp fun prog w A R s h => by
    obtain ⟨hp, g, d, tk, os⟩ := s
    obtain ⟨hl, h⟩ := h
    have hsub := sub_enumerate
    have hT : Heap.IsTuple (Shared.heap ⟨hp, g, d, tk, os⟩) l items := ⟨_, hl, rfl, n, rfl⟩
    wp_walk using wpAny_loadPart' hl
    refine wpAny_stack_any fun st => wpAny_pure ?_
    split
    · rename_i c _ _ _ _ _
      cases (c == Value.type "enumerate")
      · wp_walk using wpAny_loadPart' hl, wpAny_pyIter_tuple hT
        exact ⟨_, rfl, h⟩
      · wp_walk using wpAny_loadPart' hl, wpAny_pyIter_tuple hT
        exact ⟨_, rfl, h⟩
    · wp_walk using wpAny_loadPart' hl, wpAny_pyIter_tuple hT
      exact ⟨_, rfl, h⟩
section
variable {prog : Program} {w : World} {A : Around} {E : Value → Shared → Prop} {s : Shared}
theorem call_enumT {l : Addr} {items : Array Value} {Q : Value → Shared → Prop} (hL : s.heap.IsTuple l items)
    (h : ∀ h', IsEnum h' (s.heap.objs.size + 1) s.heap.objs.size 0 .none → h'.IsTupleIter s.heap.objs.size l 0 → h'.objs.size = s.heap.objs.size + 2 →
      (∀ b o, s.heap.get? b = some o → h'.get? b = some o) → Q (.ref (s.heap.objs.size + 1)) { s with heap := h' }) :
    wpAny (model prog w) A (call (.type "enumerate") [.ref l]) Q E s := by
  obtain ⟨⟨c, dct, dt, sl⟩, hl, hc, n, hd⟩ := hL
  replace hc : c = .type "tuple" := hc
  replace hd : dt = .seq items n := hd
  subst hc hd
  refine callType_new F.called_enumerate (by decide) (F.typeCall_enumerate_1 _) (F.newCall_enumerate_1 _) (fun obj => F.args_object_init_2 obj _) F.entry_enumerate_new
    (meets_enumT l items n dct sl) ⟨hl, ?_⟩
  have hz : (s.heap.push { cls := .type "tuple_iterator", data := .fields #[.ref l, .int 0 0] }).objs.size = s.heap.objs.size + 1 := Heap.size_push ..
  show _ ∧ _
  rw [hz]
  have he : IsEnum ((s.heap.push { cls := .type "tuple_iterator", data := .fields #[.ref l, .int 0 0] }).push
      { cls := .type "enumerate", data := .fields #[.none, .bool false, .ref s.heap.objs.size, rawInt 0, .none, .none] }) (s.heap.objs.size + 1) s.heap.objs.size 0 .none := by
    have := Heap.get?_push_size (s.heap.push { cls := .type "tuple_iterator", data := .fields #[.ref l, .int 0 0] })
      (o := { cls := .type "enumerate", data := .fields #[.none, .bool false, .ref s.heap.objs.size, rawInt 0, .none, .none] }) rfl
    rw [hz] at this
    exact this
  refine ⟨⟨_, he, rfl⟩, h _ he ⟨_, Heap.get?_push_of_some _ (Heap.get?_push_size _ rfl), rfl, rfl⟩ (by rw [Heap.size_push, hz]) fun b o x => Heap.get?_push_of_some _ (Heap.get?_push_of_some _ x)⟩
theorem enumT_end {e it l : Addr} {i : Nat} {k : Int} {items : Array Value} {old : Value} {Q : Option Value → Shared → Prop} (hh : A.handled = none)
    (he : IsEnum s.heap e it k old) (hit : s.heap.IsTupleIter it l i) (hl : s.heap.IsTuple l items) (hx : items[i]? = none)
    (hQ : ∀ h', Heap.ExtBut it s.heap h' → Q none { s with heap := h' }) : wpAny (model prog w) A (pyNext (.ref e)) Q E s := by
  have hT : s.TypeIs (.ref e) "enumerate" := ⟨_, he, rfl⟩
  unfold pyNext
  refine wpAny_bind (wpAny_attempt (wpAny_callSpecial?_slot (name := Str.ofString "__next__") hT F.slot_enumerate_next
    (wpAny_call_entry F.slot_enumerate_next hT F.entry_enumerate_next ?_ (F.args_enumerate_next_1 _))))
  show wpAny _ _ (field (.ref e) 2 >>= _) _ _ _
  refine wpAny_bind (wpAny_field he rfl (x := .ref it) rfl ?_)
  refine wpAny_bind (wpAny_nextOf_tuple_end hh hit hl hx fun h' x he' hx' => ?_)
  obtain ⟨o, ho, hc⟩ := hx'
  refine wpAny_bind (wpAny_isInstance (T := "StopIteration") (b := true) ⟨o, ho, hc⟩ isSubtype_stop ?_)
  exact wpAny_pure (hQ _ he')
end
open L2
def IteT (K : PySem.W.Frag) (a : Addr) : It :=
  ⟨fun i H => ∃ (xs : List V) (x : V), SqT K H a xs ∧ xs[i]? = some x, fun i H v H' => ∃ T x, v = .ref T ∧ H T = none ∧ H' = upd H T (.tup [.int (i : Nat), x]) ∧ ∀ xs, SqT K H a xs → xs[i]? = some x, fun i H => ∃ xs : List V, SqT K H a xs ∧ xs.length ≤ i⟩
theorem turn_enumT {P : Program} {w : World} {K : PySem.W.Frag} {elts : List Expr} {kk : Nat} {tpos : Pos} (a e it : Addr) (hae : a ≠ it) :
    Turn P w K (.Tuple elts kk tpos) (IteT K a) [e, it] e (fun i h => (∃ old, IsEnum h e it ((i : Nat) : Int) old) ∧ h.IsTupleIter it a i ∧ e ≠ it ∧ e ≠ a) where
  mem := by simp
  obj := fun i h st b hb => by
    obtain ⟨⟨old, he⟩, ⟨o, ho, hc, hd⟩, _⟩ := st
    have e' : b = e ∨ b = it := by simpa using hb
    rcases e' with z | z
    · rw [z]; exact ⟨_, he, fun v q => nomatch q⟩
    · rw [z]; exact ⟨o, ho, fun v q => by rw [hd] at q; cases q⟩
  keep := fun i h h' st k => let ⟨⟨old, he⟩, hi, hne⟩ := st; ⟨⟨old, k e (by simp) _ he⟩, hi.at fun o q => k it (by simp) o q, hne⟩
  item := by
    intro X hP hw hK hc i pins s σ H E I hf st hg
    subst hP hw hK
    obtain ⟨⟨old, he⟩, hit, hne, hea⟩ := st
    obtain ⟨xs, x, hq, hx⟩ := hg
    obtain ⟨its, rv, p, hz⟩ := I.tuple hq
    obtain ⟨u, hu, ru⟩ := rv.get hx
    have hel : e < s.heap.objs.size := Heap.lt_size he
    have hil : it < s.heap.objs.size := by obtain ⟨_, q, _⟩ := hit; exact Heap.lt_size q
    have hlt : i < its.toArray.size := by
      have := (List.getElem?_eq_some_iff.mp hu).1
      simpa using this
    have pT : s.heap.IsTuple a its.toArray := p
    refine wpAny_pyNext_enum_itemD (Draws.tuple (A := X.A.in1) (I.ok.hd hc) it a hae its.toArray) he ⟨hit, pT⟩ hlt hne (by simp [hne, hea]) fun x' h' tk hx' ho hit' hT hsz hk => ?_
    have ex : x' = u := by
      have h1 : its.toArray[i]? = some x' := hx'
      have h2 : its.toArray[i]? = some u := by simpa using hu
      rw [h1] at h2
      exact Option.some.inj h2
    subst ex
    refine ⟨_, rfl, wpAny_letOwnedTupleGo_enum (s := { s with heap := h', toks := tk + 1 }) ho fun h'' he' sb => ?_⟩
    have hT2 : h''.get? s.heap.objs.size = some { cls := .type "tuple", data := .seq #[.int i tk, x'] } := (sb.2 _ (Nat.ne_of_gt hel)).trans hT
    have new : ObjOk X.prog X.w (upd H s.heap.objs.size (.tup [.int (i : Nat), x])) h'' s.heap.objs.size (.tup [.int (i : Nat), x]) :=
      ⟨by show 2 ≤ sizeLine; decide, [.int i tk, x'], .cons ⟨_, rfl⟩ (.cons ru .nil), ⟨_, hT2, rfl, _, rfl⟩⟩
    have I1 : Inv X pins σ (upd H s.heap.objs.size (.tup [.int (i : Nat), x])) { s with heap := h'', toks := tk + 1 } :=
      I.turnedNew (ch := [e, it]) (fun b ob hb q => (sb.2 b (fun z => hb (by simp [z]))).trans (hk b ob (fun z => hb (by simp [z])) (fun z => hb (by simp [z])) q)) hf (Nat.le_refl _) new
    refine ⟨.ref s.heap.objs.size, _, I1, rfl, ⟨_, x, rfl, I.hok.fresh (Nat.le_refl _), rfl, fun ys hy => by rw [I.tuple_inj hy hq]; exact hx⟩, ⟨⟨x', ?_⟩, hit'.1.at fun o q => (sb.2 it (Ne.symm hne)).trans q, hne, hea⟩, fun b hb => ?_⟩
    · have e1 : ((i + 1 : Nat) : Int) = (i : Int) + 1 := by omega
      rw [e1]
      exact he'
    · have hb' : b < s.heap.objs.size := by
        have e' : b = e ∨ b = it := by simpa using hb
        rcases e' with z | z
        · rw [z]; exact hel
        · rw [z]; exact hil
      rw [upd_ne (Nat.ne_of_lt hb')]
      exact (hf b hb).1
  done := by
    intro X hP hw hK hc i pins s σ H E I hf st hg
    subst hP hw hK
    obtain ⟨⟨old, he⟩, hit, hne, hea⟩ := st
    obtain ⟨xs, hq, hx⟩ := hg
    obtain ⟨its, rv, p, hz⟩ := I.tuple hq
    obtain ⟨f0, f1, f2, f3, f4, f5⟩ := hf it (by simp)
    have hl := rv.length
    have pT : s.heap.IsTuple a its.toArray := p
    have hi : i ≥ its.length := by omega
    have hn : its.toArray[i]? = none := by simp; omega
    exact enumT_end (I.ok.hd hc) he hit pT hn fun h' eb => ⟨rfl, I.turned (t' := s.toks) (fun b o hb q => eb b o hb q) f0 f1 f3 f4 f5⟩
  self := fun A i s Q E st h => let ⟨⟨_, he⟩, _⟩ := st; wpAny_pyIter_enum he h
def iEnumT (K : PySem.W.Frag) (ta : TA) : TI := fun σ H R => ta σ H fun vs H1 => ∃ a xs, vs = [.ref a] ∧ SqT K H1 a xs ∧ R (IteT K a) H1
theorem pi_enumT {X : Cx} {e : Expr} {ta : TA} {p pos tpos : Pos} {elts : List Expr} {kk : Nat} (hg : Gl X "enumerate") (hm : X.mg "enumerate" = none) (ha : PA X [e] ta) (hs : starEach [e] X.env = [(false, eval e X.env)]) :
    PI X (.Tuple elts kk tpos) (.Call (.Name "enumerate" p) [e] [] pos) (iEnumT X.K ta) := by
  refine ⟨fun pins s σ H R I h => ?_⟩
  refine Call_ (ld_blt I hg hm boot_enumerate (PyProof.Rows.callWith_type1 (thn (ha.run pos pins s σ H _ I h) fun us s1 ⟨vs, H1, I1, r1, q1⟩ => ?_) hs rfl))
  obtain ⟨a, xs, ex, hq, q⟩ := q1
  subst ex
  cases r1 with
  | cons r rr =>
    cases rr
    cases r
    obtain ⟨its, rv, p', hz⟩ := I1.tuple hq
    obtain ⟨oa, ha', _⟩ := id p'
    have hal : a < s1.heap.objs.size := Heap.lt_size ha'
    refine call_enumT (show s1.heap.IsTuple a its.toArray from p') fun h' he hit hsz hk => wpAny_pyIter_enum he ?_
    have I2 : Inv X pins σ H1 { s1 with heap := h' } := I1.kept (t' := s1.toks) hk
    refine ⟨s1.heap.objs.size + 1, [s1.heap.objs.size + 1, s1.heap.objs.size], _, _, H1, rfl, I2, turn_enumT a (s1.heap.objs.size + 1) s1.heap.objs.size (Nat.ne_of_lt hal), ⟨⟨.none, he⟩, hit, Nat.succ_ne_self _, fun z => Nat.lt_irrefl _ (Nat.lt_trans (Nat.lt_succ_self _) (z ▸ hal))⟩, fun b hb => ?_, q⟩
    have e' : b = s1.heap.objs.size + 1 ∨ b = s1.heap.objs.size := by simpa using hb
    have hle : s1.heap.objs.size ≤ b := by
      rcases e' with z | z
      · rw [z]; exact Nat.le_add_right _ _
      · rw [z]; exact Nat.le_refl _
    exact I1.fpOk hle (I1.hok.fresh hle)
@[simp] def wEnumA (wa : WA) : WI := fun ρ Q => wa ρ fun ss ρ1 => match ss with
  | [.fz (.tuple ds)] => Q (enumD ds) ρ1
  | _ => False
theorem di_enumA {X : Cx} {pos : Pos} {e : Expr} {ta : TA} {wa : WA} {p tpos : Pos} {elts : List Expr} {kk : Nat} (hg : Gl X "enumerate") (hm : X.mg "enumerate" = none) (ha : DA X [e] ta wa) (hs : starEach [e] X.env = [(false, eval e X.env)] := by rfl) :
    DI X (.Tuple elts kk tpos) (.Call (.Name "enumerate" p) [e] [] pos) (iEnumT X.K ta) (wEnumA wa) := by
  refine ⟨pi_enumT hg hm ha.pa hs, fun ρ Q w O L σ H I R q => ?_⟩
  refine ha.ev ρ _ w O L σ H I _ fun L1 vs H1 ss ρ1 g1 I1 a1 h1 => ?_
  split at h1
  · rename_i ds
    cases a1 with
    | cons x r =>
      cases r
      obtain ⟨a, xs, rfl, s1, d1⟩ := dp_tupI x
      refine ⟨a, xs, rfl, sqt_mono less_sub s1, q L1 _ H1 _ ρ1 g1 I1 (fun H g i => ?_) h1⟩
      refine ⟨fun d hd => ?_, fun hl => ⟨xs, sqt_mono g s1, ?_⟩⟩
      · obtain ⟨u, e1, rfl⟩ := enumD_get hd
        obtain ⟨v1, k1, k2⟩ := d1.at_ e1
        refine ⟨⟨xs, v1, sqt_mono g s1, k1⟩, fun x H' y => ?_⟩
        obtain ⟨T, x', rfl, hT, rfl, f1⟩ := y
        have m1 := f1 xs (sqt_mono g s1)
        rw [k1] at m1
        cases m1
        exact .inr ⟨T, _, _, rfl, hT, rfl, rfl, .cons (.int _) (.cons k2 .nil)⟩
      · unfold enumD at hl
        rw [List.length_mapIdx] at hl
        rw [d1.len]
        omega
  · exact h1.elim
mutual
/-- ints and tuples, n deep at most -/
def itD : PyData → Nat → Bool
  | .int _, _ => true
  | .tuple ds, n + 1 => itDs ds n
  | _, _ => false
def itDs : List PyData → Nat → Bool
  | [], _ => true
  | d :: ds, n => itD d n && itDs ds n
end
/-- a tuple, 8 deep at most -/
def isT8 : PyData → Bool
  | .tuple ds => itDs ds 7
  | _ => false
@[simp] def wLenSet (we : WE) : WE := fun ρ Q => we ρ fun r ρ1 => match r.dat with
  | some (.list ds) => (ds.Nodup ∧ ds.length ≤ 125 ∧ ∀ d ∈ ds, isT8 d = true) ∧ Q (.fz (.int ds.length)) ρ1
  | _ => False
end DC

set_option Elab.async false
set_option linter.all false
set_option maxRecDepth 100000
set_option maxHeartbeats 1000000
namespace DC
open PySem PySem.Spec PyProof.Rows L2
theorem bindsK1 {K : PySem.W.Frag} {x qual y : Str} {params : Arguments} {body : List Stmt} {scope : Scope} {f : Addr} {fd : FuncData} (F : FunD K x qual params body scope [] [] f fd)
    (h : ∀ (kV doc pm : Value) (an : Option Addr) (cdv ct : Value) (u : Value), bindArgs (PySem.W.fnOf x qual params body scope .none kV doc pm an cdv ct) ⟨[], [(y, u)]⟩ = pure [(y, u)]) (s : Shared) (u : Value) : BindsTo s fd ⟨[], [(y, u)]⟩ [(y, u)] := by
  obtain ⟨oc, od, dV, kV, doc, pm, an, cdv, ct, osl, rfl, lk, hcd, hD, hK⟩ := F.ex
  rcases hD with ⟨_, rfl⟩ | ⟨e, _⟩
  · exact .of_eq (h kV doc pm an cdv ct u)
  · exact absurd rfl e
/-! ### comprehensions, the readings of the block as they come -/
abbrev BlkI := Shared × Hp × Addr × List (Str × Addr) × List Addr
section
variable {X : Cx}
abbrev blkAt (X : Cx) (scope : Scope) (i : BlkI) : Cx := X.blk i.1 i.2.1 scope (compEnvC scope i.2.2.2.1 i.2.2.1 X.env) i.2.2.2.2
theorem de_lcF {elt tg iter : Expr} {ifs : List Expr} {scope : Scope} {own : List (Str × Nat)} {pos : Pos} {wi : TI} {g : BlkI → TG} {tt : BlkI → TT} {te : BlkI → TE} {sl : List Nat} {wI : WI} {wg : WG} {wt : WT} {we : WE} (hc : X.calm = true) (hN : X.N.Nodup) (hi : DI X tg iter wi wI) (ok : BlkOk X.N X.env.scope scope own)
    (hg : ∀ i : BlkI, DG (blkAt X scope i) tg (g i) sl wg) (ht : ∀ i : BlkI, DTs (blkAt X scope i) ifs (tt i) wt)
    (he : ∀ i : BlkI, DE (blkAt X scope i) elt (te i) we) (hsl : ∀ j ∈ sl, j ∈ own.map (·.2) := by decide) (hs : ∀ x, foldedSetIterable iter X.env x = pure x := by intro _; rfl) :
    DE X (.ListComp elt [⟨tg, iter, ifs, 0⟩] scope pos) (tLc wi (fun v σ H Q => ∀ i, g i v σ H Q) (fun σ H Q => ∀ i, tt i σ H Q) (fun σ H Q => ∀ i, te i σ H Q) (own.map (·.2))) (wLc wI wg wt we (own.map (·.2))) :=
  de_lc hc hN hi ok (fun s H C cl fp => ⟨⟨fun pins s1 σ H1 v u Q I r z => (hg (s, H, C, cl, fp)).pg.run pins s1 σ H1 v u Q I r (z _)⟩, fun d ρ Q w O L σ H1 v I hd QV q i => (hg i).ev d ρ Q w O L σ H1 v I hd QV q⟩)
    (fun s H C cl fp => ⟨⟨fun pins s1 σ H1 Q I z => (ht (s, H, C, cl, fp)).pts.run pins s1 σ H1 Q I (z _)⟩, fun ρ Q w O L σ H1 I QV q i => (ht i).ev ρ Q w O L σ H1 I QV q⟩)
    (fun s H C cl fp => ⟨⟨fun pins s1 σ H1 Q I z => (he (s, H, C, cl, fp)).pe.run pins s1 σ H1 Q I (z _)⟩, fun ρ Q w O L σ H1 I QV q i => (he i).ev ρ Q w O L σ H1 I QV q⟩) hsl hs
theorem ds_setLcF {i : Nat} {y : Str} {py : Pos} {elt tg iter : Expr} {ifs : List Expr} {scope : Scope} {own : List (Str × Nat)} {pos spos : Pos} {wi : TI} {g : BlkI → TG} {tt : BlkI → TT} {te : BlkI → TE} {sl : List Nat} {wI : WI} {wg : WG} {wt : WT} {we : WE} (hc : X.calm = true) (hN : X.N.Nodup)
    (hy : X.N[i]? = some y) (hyl : X.env.scope.names.lookup y = some .local) (hsw : swapsWith (.ListComp elt [⟨tg, iter, ifs, 0⟩] scope pos) (some (.Name y py)) spos.line X.env = pure true) (hi : DI X tg iter wi wI) (ok : BlkOk X.N X.env.scope scope own)
    (hg : ∀ i : BlkI, DG (blkAt X scope i) tg (g i) sl wg) (ht : ∀ i : BlkI, DTs (blkAt X scope i) ifs (tt i) wt)
    (he : ∀ i : BlkI, DE (blkAt X scope i) elt (te i) we) (hsl : ∀ j ∈ sl, j ∈ own.map (·.2) := by decide) (hs : ∀ x, foldedSetIterable iter X.env x = pure x := by intro _; rfl) :
    DS X (.Assign [.Name y py] (.ListComp elt [⟨tg, iter, ifs, 0⟩] scope pos) spos) (tAsg (tLc wi (fun v σ H Q => ∀ i, g i v σ H Q) (fun σ H Q => ∀ i, tt i σ H Q) (fun σ H Q => ∀ i, te i σ H Q) (own.map (·.2))) (gName i)) (wSet i (wLc wI wg wt we (own.map (·.2)))) :=
  ds_setLc hc hN hy hyl hsw hi ok (fun s H C cl fp => ⟨⟨fun pins s1 σ H1 v u Q I r z => (hg (s, H, C, cl, fp)).pg.run pins s1 σ H1 v u Q I r (z _)⟩, fun d ρ Q w O L σ H1 v I hd QV q i => (hg i).ev d ρ Q w O L σ H1 v I hd QV q⟩)
    (fun s H C cl fp => ⟨⟨fun pins s1 σ H1 Q I z => (ht (s, H, C, cl, fp)).pts.run pins s1 σ H1 Q I (z _)⟩, fun ρ Q w O L σ H1 I QV q i => (ht i).ev ρ Q w O L σ H1 I QV q⟩)
    (fun s H C cl fp => ⟨⟨fun pins s1 σ H1 Q I z => (he (s, H, C, cl, fp)).pe.run pins s1 σ H1 Q I (z _)⟩, fun ρ Q w O L σ H1 I QV q i => (he i).ev ρ Q w O L σ H1 I QV q⟩) hsl hs
end
end DC

set_option Elab.async false
set_option linter.all false
set_option maxRecDepth 100000
set_option maxHeartbeats 1000000
/-! Sets that are filled with new keys alone: the table. -/
namespace DC
open PySem PySem.Spec PyProof.Rows L2
/-- the way from any hash meets every slot -/
def Cov (m : Nat) : Prop := ∀ (h : Int) (j : Nat), j ≤ m → ∃ n, n ≤ m + 12 ∧ L2.runI m (SetTable.bits h) n = j
theorem cov_of {m : Nat} (hm : L2.MaskOk m) : Cov m := fun h j hj => L2.run_meets hm h hj
def cyc : Nat → Nat → List Nat
  | 0, _ => []
  | f + 1, x => x :: cyc f ((x * 5 + 1) % 512)
theorem cyc_mem {j : Nat} : ∀ {f a : Nat}, j ∈ cyc f (L2.lcgN 511 a) → ∃ k, k < f ∧ L2.lcgN 511 (a + k) = j
  | 0, _, h => by simp [cyc] at h
  | f + 1, a, h => by
    unfold cyc at h
    rcases List.mem_cons.mp h with rfl | h
    · exact ⟨0, by omega, rfl⟩
    · have e : (L2.lcgN 511 a * 5 + 1) % 512 = L2.lcgN 511 (a + 1) := rfl
      rw [e] at h
      obtain ⟨k, hk, e2⟩ := cyc_mem h
      exact ⟨k + 1, by omega, by rw [← e2]; congr 1; omega⟩
theorem cyc_all : ((List.range 512).all fun j => (cyc 512 0).contains j) = true := by decide +kernel
theorem cyc_round : L2.lcgN 511 512 = 0 := by decide +kernel
theorem cyc_at {j : Nat} (h : j ≤ 511) : ∃ k, k < 512 ∧ L2.lcgN 511 k = j := by
  have := List.all_eq_true.mp cyc_all j (List.mem_range.mpr (by omega))
  have hm : j ∈ cyc 512 (L2.lcgN 511 0) := List.contains_iff_mem.mp this
  obtain ⟨k, hk, e⟩ := cyc_mem hm
  exact ⟨k, hk, by rw [← e, Nat.zero_add]⟩
theorem cov_511 : Cov 511 := by
  intro h j hj
  have hb := L2.bits_lt h
  obtain ⟨a, ha, ea⟩ := cyc_at (L2.runI_le 511 (SetTable.bits h) 12)
  obtain ⟨b, hb2, eb⟩ := cyc_at hj
  have per : ∀ k, L2.lcgN 511 (512 + k) = L2.lcgN 511 k := fun k => by
    rw [← L2.lcgN_add 511 512 k, cyc_round]
    have := L2.lcgN_add 511 0 k
    rw [Nat.zero_add] at this
    exact this
  have go : ∀ k, k ≤ 511 → L2.lcgN 511 (a + k) = j → ∃ n, n ≤ 511 + 12 ∧ L2.runI 511 (SetTable.bits h) n = j := fun k hk e =>
    ⟨12 + k, by omega, by rw [L2.runI_tail hb, ← ea, L2.lcgN_add]; exact e⟩
  by_cases z : a ≤ b
  · exact go (b - a) (by omega) (by rw [show a + (b - a) = b by omega]; exact eb)
  · exact go (512 - a + b) (by omega) (by rw [show a + (512 - a + b) = 512 + b by omega, per]; exact eb)
/-- within the probes that are made -/
theorem cov_way {m : Nat} (c : Cov m) (h : Int) {j : Nat} (hj : j ≤ m) : ∃ k, k < 10 * SetTable.turns m ∧ L2.way m h k = j := by
  obtain ⟨n, hn, e⟩ := c h j hj
  obtain ⟨k, hk, e2⟩ := L2.run_nth m (SetTable.bits h) n
  refine ⟨k, ?_, ?_⟩
  · unfold SetTable.turns
    omega
  · show (L2.nth m _ k).j = j
    rw [e2]
    exact e
/-- the masks of sets of up to 300 -/
def Msk (m : Nat) : Prop := m = 7 ∨ m = 31 ∨ m = 127 ∨ m = 511
theorem Msk.cov {m : Nat} (h : Msk m) : Cov m := by
  rcases h with rfl | rfl | rfl | rfl
  · exact cov_of (.inl rfl)
  · exact cov_of (.inr (.inl rfl))
  · exact cov_of (.inr (.inr rfl))
  · exact cov_511
/-- a table in order, of n keys -/
structure Tab (t : SetTable) (n : Nat) : Prop where
  dm : t.dummies = #[]
  sz : t.place.size = n
  msk : Msk t.mask
  room : n * 5 < t.mask * 3
theorem slot_or {t : SetTable} (hd : t.dummies = #[]) (j : Nat) : t.slot j = .empty ∨ ∃ i, t.slot j = .live i ∧ t.place[i]? = some j := by
  unfold SetTable.slot
  simp only
  split
  · rename_i e
    exact .inr ⟨_, rfl, by simpa using e⟩
  · rw [hd]
    left
    rw [if_neg]
    unfold SetTable.has
    simp
/-- the first empty slot on the way -/
theorem Tab.first {t : SetTable} {n : Nat} (T : Tab t n) (h : Int) : ∃ K, K < 10 * SetTable.turns t.mask ∧ t.slot (L2.way t.mask h K) = .empty ∧ ∀ k, k < K → ∃ i, t.slot (L2.way t.mask h k) = .live i ∧ i < n := by
  have live : ∀ j i, t.slot j = .live i → i < n := fun j i e => by
    rcases slot_or T.dm j with z | ⟨i', z, hp⟩
    · rw [z] at e; cases e
    · rw [z] at e
      cases e
      rw [← T.sz]
      exact (Array.getElem?_eq_some_iff.mp hp).1
  -- some slot is empty
  obtain ⟨j, hj, he⟩ : ∃ j, j ≤ t.mask ∧ t.slot j = .empty := by
    have : ∃ j, j < t.mask + 1 ∧ j ∉ t.place.toList := L2.st_missing t.place.toList (t.mask + 1) (by
      rw [Array.length_toList, T.sz]
      have := T.room
      omega)
    obtain ⟨j, hj, hn⟩ := this
    refine ⟨j, by omega, ?_⟩
    rcases slot_or T.dm j with z | ⟨i, _, hp⟩
    · exact z
    · exact absurd (Array.mem_toList_iff.mpr (Array.mem_of_getElem? hp)) hn
  obtain ⟨k0, hk0, e0⟩ := cov_way T.msk.cov h hj
  obtain ⟨K, hK, hp, hb⟩ := L2.st_least (p := fun k => t.slot (L2.way t.mask h k) = .empty) k0 (by rw [e0]; exact he)
  refine ⟨K, by omega, hp, fun k hk => ?_⟩
  rcases slot_or T.dm (L2.way t.mask h k) with z | ⟨i, z, _⟩
  · exact absurd z (hb k hk)
  · exact ⟨i, z, live _ _ z⟩
end DC

set_option Elab.async false
set_option linter.all false
set_option maxRecDepth 100000
set_option maxHeartbeats 1000000
/-! A table laid anew; the search of a new key. -/
namespace DC
open PySem PySem.Spec PyProof.Rows L2
theorem leap_in (m i b : Nat) : (SetTable.leap m i b).1 ≤ m := by
  have : (i * 5 + 1 + b / 32) % (m + 1) < m + 1 := Nat.mod_lt _ (Nat.succ_pos _)
  show (i * 5 + 1 + b / 32) % (m + 1) ≤ m
  omega
theorem way_in (m : Nat) (h : Int) (k : Nat) : L2.way m h k ≤ m := by
  have lt : SetTable.bits h % (m + 1) ≤ m := by
    have : SetTable.bits h % (m + 1) < m + 1 := Nat.mod_lt _ (Nat.succ_pos m)
    omega
  obtain ⟨r1, r2, _⟩ := L2.runEnd_bd lt
  have q := L2.nth_in (m := m) k (L2.runAt m (SetTable.bits h % (m + 1)) (SetTable.bits h)) (by unfold L2.runAt; dsimp only; omega)
  unfold L2.way
  omega
theorem cov_free {m : Nat} (c : Cov m) (owner : Array (Option Nat)) (h : Int) {j : Nat} (hj : j ≤ m) (hf : L2.oAt owner j = none) :
    ∃ K, SetTable.layClean.free m owner (SetTable.turns m) (SetTable.bits h % (m + 1)) (SetTable.bits h) = some (L2.way m h K) ∧ L2.oAt owner (L2.way m h K) = none := by
  obtain ⟨n, hn, e⟩ := c h j hj
  have hit : L2.oAt owner (L2.way m h (L2.off m (SetTable.bits h % (m + 1)) (SetTable.bits h) n)) = none := by
    unfold L2.way
    rw [L2.nth_off, L2.itL_run]
    have : (L2.runAt m (L2.runI m (SetTable.bits h) n) (SetTable.bits h / 32 ^ n)).j = j := e
    rw [this]
    exact hf
  obtain ⟨K, k1, k2, k3⟩ := L2.st_least (p := fun k => L2.oAt owner (L2.way m h k) = none) _ hit
  refine ⟨K, L2.free_spec m owner _ n _ _ K ?_ k1 (fun k hk => ?_) ?_, k2⟩
  · unfold SetTable.turns
    omega
  · have := k3 k hk
    unfold L2.way at this
    exact Option.isNone_eq_false_iff.mpr (Option.isSome_iff_ne_none.mpr this)
  · unfold L2.way at k2
    rw [k2]
    rfl
/-- who sits where, n of them -/
structure Ow (m n : Nat) (owner : Array (Option Nat)) : Prop where
  sz : owner.size = m + 1
  lt : ∀ j k, j ≤ m → L2.oAt owner j = some k → k < n
  ps : ∃ ps : List Nat, ps.length = n ∧ ps.Nodup ∧ ∀ j, j ∈ ps ↔ j ≤ m ∧ L2.oAt owner j ≠ none
theorem Ow.none_ (m : Nat) : Ow m 0 (Array.replicate (m + 1) none) where
  sz := by simp
  lt := fun j k hj e => by rw [L2.oAt_init hj] at e; cases e
  ps := ⟨[], rfl, List.nodup_nil, fun j => ⟨fun z => absurd z List.not_mem_nil, fun z => absurd (L2.oAt_init z.1) z.2⟩⟩
theorem Ow.more {m n : Nat} (c : Cov m) {owner : Array (Option Nat)} (W : Ow m n owner) (hl : n ≤ m) (h : Int) :
    ∃ j, SetTable.layClean.free m owner (SetTable.turns m) (SetTable.bits h % (m + 1)) (SetTable.bits h) = some j ∧ Ow m (n + 1) (owner.setIfInBounds j (some n)) := by
  obtain ⟨ps, p1, p2, p3⟩ := W.ps
  obtain ⟨j0, h0, hn0⟩ := L2.st_missing ps (m + 1) (by omega)
  have hj0 : L2.oAt owner j0 = none := Classical.byContradiction fun z => hn0 ((p3 j0).mpr ⟨by omega, z⟩)
  obtain ⟨K, e1, e2⟩ := cov_free c owner h (Nat.le_of_lt_succ h0) hj0
  have hjm := way_in m h K
  generalize L2.way m h K = j at e1 e2 hjm
  have self : L2.oAt (owner.setIfInBounds j (some n)) j = some n := L2.oAt_set_self _ (by rw [W.sz]; omega)
  refine ⟨j, e1, by rw [Array.size_setIfInBounds]; exact W.sz, fun i k hi e => ?_, j :: ps, by rw [List.length_cons, p1], List.nodup_cons.mpr ⟨fun z => ((p3 j).mp z).2 e2, p2⟩, fun i => ?_⟩
  · by_cases z : i = j
    · rw [z, self] at e
      cases e
      omega
    · rw [L2.oAt_set_ne _ z] at e
      have := W.lt i k hi e
      omega
  · by_cases z : i = j
    · subst z
      rw [self]
      simp [hjm]
    · rw [L2.oAt_set_ne _ z, List.mem_cons, p3 i]
      simp [z]
theorem ow_fold {m : Nat} (c : Cov m) : ∀ (rest : List Int) (n : Nat) (owner : Array (Option Nat)), Ow m n owner → n + rest.length ≤ m →
    ∃ o2, rest.foldl (L2.stepF m) (some (owner, n)) = some (o2, n + rest.length) ∧ Ow m (n + rest.length) o2
  | [], n, owner, W, _ => ⟨owner, rfl, W⟩
  | h :: rest, n, owner, W, hl => by
    rw [List.length_cons] at hl
    obtain ⟨j, e, W1⟩ := W.more c (by omega) h
    obtain ⟨o2, f, W2⟩ := ow_fold c rest (n + 1) _ W1 (by omega)
    refine ⟨o2, ?_, ?_⟩
    · rw [List.foldl_cons, L2.stepF_some e, f, List.length_cons]
      congr 2
      omega
    · rw [List.length_cons]
      rw [show n + (rest.length + 1) = n + 1 + rest.length by omega]
      exact W2
theorem relaid_new (t : SetTable) {hs : Array Int} {wanted M : Nat} (hw : SetTable.sizeAbove wanted - 1 = M) (c : Cov M) (hn : hs.size ≤ M) :
    ∃ t2 order, t.relaid hs wanted = some (t2, order) ∧ order.size = hs.size ∧ (∀ k ∈ order.toList, k < hs.size) ∧ t2.place.size = hs.size ∧ t2.mask = M ∧ t2.led = t.led ∧ t2.plain = t.plain ∧ t2.dummies = #[] := by
  obtain ⟨owner, f, W⟩ := ow_fold c hs.toList 0 _ (Ow.none_ M) (by rw [Array.length_toList]; omega)
  rw [Nat.zero_add, Array.length_toList] at f W
  have hr : t.relaid hs wanted = some (L2.tabOf t M owner, ((L2.liveOf M owner).map (·.2)).toArray) := by
    rw [L2.relaid_eq, hw, L2.layClean_eq, f]
    rfl
  obtain ⟨ps, p1, p2, p3⟩ := W.ps
  have ris := (L2.ris_live (fun j => owner.getD j none) (List.range (M + 1)) (by unfold L2.Ris; exact List.pairwise_lt_range)).1
  have nd : ((L2.liveOf M owner).map (·.1)).Nodup := List.Pairwise.imp (fun h => Nat.ne_of_lt h) ris
  have mem : ∀ x, x ∈ (L2.liveOf M owner).map (·.1) ↔ x ∈ ps := fun x => by
    rw [p3 x]
    constructor
    · intro z
      obtain ⟨⟨y, k⟩, hq, rfl⟩ := List.mem_map.mp z
      obtain ⟨b1, b2⟩ := (L2.mem_live W.sz).mp hq
      exact ⟨b1, by rw [b2]; simp⟩
    · intro ⟨b1, b2⟩
      cases q : L2.oAt owner x with
      | none => exact absurd q b2
      | some k => exact List.mem_map.mpr ⟨(x, k), (L2.mem_live W.sz).mpr ⟨b1, q⟩, rfl⟩
  have len : (L2.liveOf M owner).length = hs.size := by
    have a := L2.nat_nodup_len _ ps nd fun x hx => (mem x).mp hx
    have b := L2.nat_nodup_len ps _ p2 fun x hx => (mem x).mpr hx
    rw [List.length_map] at a b
    omega
  refine ⟨_, _, hr, by simp [len], fun k hk => ?_, by simp [L2.tabOf, len], rfl, rfl, rfl, rfl⟩
  obtain ⟨⟨j, k2⟩, hq, rfl⟩ := List.mem_map.mp (show k ∈ (L2.liveOf M owner).map (·.2) from hk)
  obtain ⟨b1, b2⟩ := (L2.mem_live W.sz).mp hq
  exact W.lt j _ b1 b2
/-- what a probe answers -/
theorem go_new (t : SetTable) (hashAt : Nat → Int) (h : Int) : ∀ (f K : Nat) (p : SetTable.Probe), p.dummy = none → K < f → (∀ k, k < K → ∃ i, t.slot (L2.nth t.mask p k).j = .live i) → t.slot (L2.nth t.mask p K).j = .empty →
    (∃ k i, k < K ∧ t.slot (L2.nth t.mask p k).j = .live i ∧ SetTable.probe.go t hashAt h f p = some (.candidate (L2.nth t.mask p k).j i (L2.nth t.mask p (k + 1)))) ∨
    SetTable.probe.go t hashAt h f p = some (.empty (L2.nth t.mask p K).j none)
  | 0, K, p, _, hK, _, _ => by omega
  | f + 1, 0, p, hp, _, _, he => by
    right
    have hs : t.slot p.j = .empty := he
    unfold SetTable.probe.go
    rw [hs]
    show some (SetTable.Met.empty p.j p.dummy) = _
    rw [hp]
    rfl
  | f + 1, K + 1, p, hp, hK, hin, he => by
    obtain ⟨i, hi⟩ := hin 0 (by omega)
    have hs : t.slot p.j = .live i := hi
    by_cases hh : (hashAt i == h) = true
    · refine .inl ⟨0, i, by omega, hi, ?_⟩
      unfold SetTable.probe.go
      rw [hs]
      exact if_pos hh
    · have e : SetTable.probe.go t hashAt h (f + 1) p = SetTable.probe.go t hashAt h f (L2.adv t.mask p) := by
        conv => lhs; unfold SetTable.probe.go
        rw [hs]
        exact if_neg hh
      have pd : (L2.adv t.mask p).dummy = none := by
        unfold L2.adv
        split <;> exact hp
      rw [e]
      rcases go_new t hashAt h f K (L2.adv t.mask p) pd (by omega) (fun k hk => hin (k + 1) (by omega)) he with ⟨k, i2, a1, a2, a3⟩ | a
      · exact .inl ⟨k + 1, i2, by omega, a2, a3⟩
      · exact .inr a
theorem nth_dummy (m : Nat) : ∀ (n : Nat) (p : SetTable.Probe), p.dummy = none → (L2.nth m p n).dummy = none
  | 0, _, h => h
  | n + 1, p, h => nth_dummy m n (L2.adv m p) (by unfold L2.adv; split <;> exact h)
end DC

set_option Elab.async false
set_option linter.all false
set_option maxRecDepth 100000
set_option maxHeartbeats 1000000
/-! A key that the set has not: it is added. -/
namespace DC
open PySem PySem.Spec PyProof.Rows L2
/-- a tuple of whole numbers and such tuples, n deep at most -/
inductive IT (h : Heap) : Nat → Value → Prop
  | int (n : Nat) (i : Int) (t : Tok) : IT h n (.int i t)
  | tup {n : Nat} {a : Addr} {o : Obj} {vs : Array Value} {m : Nat} : h.get? a = some o → o.cls = .type "tuple" → o.data = .seq vs m → (∀ v, v ∈ vs.toList → IT h n v) → IT h (n + 1) (.ref a)
section
variable {P : Program} {w : World} {A : Around} {E : Value → Shared → Prop} {s : Shared}
theorem ofAClass_it : ∀ (n : Nat) (v : Value) {A : Around} {E : Value → Shared → Prop} {s : Shared} {Q : Bool → Shared → Prop}, IT s.heap n v → Q false s → wpAny (model P w) A (ofAClassStatement n v) Q E s := by
  intro n
  induction n with
  | zero =>
    intro v A E s Q x h
    cases x with
    | int _ i t => exact wpAny_pure h
  | succ n ih =>
    intro v A E s Q x h
    cases x with
    | int _ i t => exact wpAny_pure h
    | @tup _ a o vs m ho hc hd hv =>
      have hT : s.TypeIs (.ref a) "tuple" := ⟨o, ho, hc⟩
      unfold ofAClassStatement
      refine wpAny_bind (wpAny_typeOf hT ?_)
      dsimp only
      have e : (("tuple" : String) == "tuple") = true := by decide
      simp only [e, if_true, Bool.not_true, Bool.false_eq_true, if_false]
      try refine wpAny_bind (wpAny_pure ?_)
      try simp only [Bool.not_true, Bool.false_eq_true, if_false]
      show wpAny _ _ (seqItems? (.ref a) >>= _) _ _ s
      refine wpAny_bind (wpAny_seqItems ho hd ?_)
      dsimp only
      refine wpAny_bind ?_
      show wpAny _ _ (forIn vs _ _) _ _ s
      rw [← Array.forIn_toList]
      refine wpAny_forIn_list _ (fun rest r s' => r.1 = none ∧ s' = s ∧ ∀ v, v ∈ rest → IT s.heap n v) _ ?_ ?_ _ _ ⟨rfl, rfl, hv⟩
      · rintro v rest r s' ⟨hr, rfl, hall⟩
        refine wpAny_bind (ih v (hall v List.mem_cons_self) ?_)
        simp only [Bool.false_eq_true, if_false]
        exact wpAny_pure ⟨rfl, rfl, fun u hu => hall u (List.mem_cons_of_mem _ hu)⟩
      · rintro ⟨r1, r2⟩ s' ⟨hr, rfl, _⟩
        dsimp only at hr
        subst hr
        exact wpAny_pure h
theorem hashBy_it : ∀ (n : Nat) (v : Value) {A : Around} {E : Value → Shared → Prop} {s : Shared} {Q : Bool → Shared → Prop}, IT s.heap n v → Q true s → wpAny (model P w) A (hashByValue n v) Q E s := by
  intro n
  induction n with
  | zero =>
    intro v A E s Q x h
    cases x with
    | int _ i t => exact wpAny_pure h
  | succ n ih =>
    intro v A E s Q x h
    cases x with
    | int _ i t => exact wpAny_pure h
    | @tup _ a o vs m ho hc hd hv =>
      have hT : s.TypeIs (.ref a) "tuple" := ⟨o, ho, hc⟩
      unfold hashByValue
      refine wpAny_bind (wpAny_specialOf hT F.slot_tuple_hash.lookup ?_)
      show wpAny _ _ (seqItems? (.ref a) >>= _) _ _ s
      refine wpAny_bind (wpAny_seqItems ho hd ?_)
      refine wpAny_bind ?_
      show wpAny _ _ (forIn vs _ _) _ _ s
      rw [← Array.forIn_toList]
      refine wpAny_forIn_list _ (fun rest r s' => r.1 = none ∧ s' = s ∧ ∀ v, v ∈ rest → IT s.heap n v) _ ?_ ?_ _ _ ⟨rfl, rfl, hv⟩
      · rintro v rest r s' ⟨hr, rfl, hall⟩
        refine wpAny_bind (ih v (hall v List.mem_cons_self) ?_)
        simp only [Bool.not_true, Bool.false_eq_true, if_false]
        exact wpAny_pure ⟨rfl, rfl, fun u hu => hall u (List.mem_cons_of_mem _ hu)⟩
      · rintro ⟨r1, r2⟩ s' ⟨hr, rfl, _⟩
        dsimp only at hr
        subst hr
        exact wpAny_pure h
/-- the key k is at the address a -/
def KAt (h : Heap) (k : NestedKey) (a : Addr) : Prop := NestedIs h k (.ref a) ∧ k.depth ≤ 8 ∧ IT h 8 (.ref a)
theorem seen_it {k : NestedKey} {b : Addr} {Q : Bool → Shared → Prop} (hk : KAt s.heap k b) {ys : List Value} (hy : ∀ y ∈ ys, ∃ k2 c, y = Value.ref c ∧ KAt s.heap k2 c) (h : Q false s) :
    wpAny (model P w) A (searchCouldBeSeen (.ref b) ys) Q E s := by
  unfold searchCouldBeSeen
  refine wpAny_bind ?_
  refine wpAny_forIn_list _ (fun rest r s' => r.1 = none ∧ s' = s ∧ ∀ y ∈ rest, ∃ k2 c, y = Value.ref c ∧ KAt s.heap k2 c) _ ?_ ?_ _ _ ⟨rfl, rfl, hy⟩
  · rintro v rest r s' ⟨hr, rfl, hall⟩
    obtain ⟨k2, c, rfl, hc⟩ := hall v List.mem_cons_self
    have more : ∀ y ∈ rest, ∃ k2 c, y = Value.ref c ∧ KAt s'.heap k2 c := fun u hu => hall u (List.mem_cons_of_mem _ hu)
    dsimp only
    by_cases hv : (b == c || (carriedByValue (.ref b) && carriedByValue (.ref c))) = true
    · exact wp_if_pos hv (wpAny_pure ⟨rfl, rfl, more⟩)
    · refine wp_if_neg hv ?_
      refine wpAny_bind (quiet_key k _ 8 _ hk.1 hk.2.1 _ _ _ ?_)
      simp only [Bool.not_true, Bool.false_eq_true, if_false]
      refine wpAny_bind (quiet_key k2 _ 8 _ hc.1 hc.2.1 _ _ _ ?_)
      simp only [Bool.not_true, Bool.false_eq_true, if_false]
      refine wpAny_bind (ofAClass_it 8 _ hk.2.2 ?_)
      simp only [Bool.false_eq_true, if_false]
      refine wpAny_bind (ofAClass_it 8 _ hc.2.2 ?_)
      simp only [Bool.false_eq_true, if_false]
      exact wpAny_pure ⟨rfl, rfl, more⟩
  · rintro ⟨r1, r2⟩ s' ⟨hr, rfl, _⟩
    dsimp only at hr
    subst hr
    exact wpAny_pure h
/-- the set at a: n keys, all of them among G -/
structure SetN (w : World) (h : Heap) (a : Addr) (n : Nat) (G : NestedKey → Addr → Prop) (es : Array (Int × Value)) (ep : Nat) (t : SetTable) : Prop where
  ob : ∃ o, h.get? a = some o ∧ o.ExactSet ∧ o.data = .set es ep t
  sz : es.size = n
  tab : Tab t n
  ent : ∀ e, e ∈ es.toList → ∃ k c, G k c ∧ e = (k.hash w, Value.ref c) ∧ KAt h k c
  plain : t.plain = true
  led : w.params.followText "set-order" = true ∨ t.led = true
variable {a : Addr} {n : Nat} {G : NestedKey → Addr → Prop} {es : Array (Int × Value)} {ep : Nat} {t : SetTable}
theorem SetN.fits (R : SetN w s.heap a n G es ep t) : t.fits es.size = true := by
  have h1 := R.tab.sz
  have h2 := R.sz
  have h3 := R.tab.room
  unfold SetTable.fits SetTable.fill
  rw [R.tab.dm, Bool.and_eq_true, beq_iff_eq, decide_eq_true_eq]
  show t.place.size = es.size ∧ t.place.size + 0 ≤ t.mask
  omega
theorem Msk.odd {m : Nat} (h : Msk m) : m % 2 = 1 := by rcases h with rfl | rfl | rfl | rfl <;> rfl
theorem SetN.gw (R : SetN w s.heap a n G es ep t) : ¬ t.gaveWay = true := by
  unfold SetTable.gaveWay
  rw [R.tab.msk.odd]
  decide
/-- the search of a new key, from the c-th step of the way on -/
theorem new_from (R : SetN w s.heap a n G es ep t) {x : Addr} {k : NestedKey} (hx : KAt s.heap k x) (hu : A.units + 8 < cLine) (hnew : ∀ c, ¬ G k c) {K : Nat} (hKf : K < 10 * SetTable.turns t.mask)
    (hK : t.slot (L2.way t.mask (k.hash w) K) = .empty) (hKb : ∀ c, c < K → ∃ i, t.slot (L2.way t.mask (k.hash w) c) = .live i ∧ i < n) {Q : SetFound → Shared → Prop}
    (hq : Q (.free (L2.way t.mask (k.hash w) K) false) s) :
    ∀ (f c : Nat) (stand : Option SetTable.Probe), stand.getD (t.probeStart (k.hash w)) = L2.nth t.mask (L2.runAt t.mask (SetTable.bits (k.hash w) % (t.mask + 1)) (SetTable.bits (k.hash w))) c → c ≤ K → K - c < f →
      wpAny (model P w) A (setSearchFrom a (.ref x) (k.hash w) true f stand) Q E s
  | 0, c, stand, _, _, hf => by omega
  | f + 1, c, stand, hst, hc, hf => by
    obtain ⟨o, ho, hex, hd⟩ := R.ob
    rw [L2.setSearchFrom_succ]
    refine wpAny_bind (wpAny_setState_of ho hd R.fits ?_)
    dsimp only
    refine wp_if_neg R.gw ?_
    try refine wpAny_bind (wpAny_pure ?_)
    generalize hp0 : L2.runAt t.mask (SetTable.bits (k.hash w) % (t.mask + 1)) (SetTable.bits (k.hash w)) = p0 at hst
    have wy : ∀ q, L2.way t.mask (k.hash w) q = (L2.nth t.mask p0 q).j := fun q => by rw [← hp0]
    have hnd : (L2.nth t.mask p0 c).dummy = none := nth_dummy _ _ _ (by rw [← hp0]; rfl)
    have sh : ∀ q, L2.nth t.mask (L2.nth t.mask p0 c) q = L2.nth t.mask p0 (c + q) := fun q => (L2.nth_add t.mask c p0 q).symm
    have spec := go_new t (fun i => (es[i]?.map (·.1)).getD 0) (k.hash w) (10 * SetTable.turns t.mask) (K - c) _ hnd (by omega)
      (fun q hq => by
        obtain ⟨i, h1, _⟩ := hKb (c + q) (by omega)
        refine ⟨i, ?_⟩
        rw [sh, ← wy]
        exact h1) (by rw [sh, show c + (K - c) = K by omega, ← wy]; exact hK)
    rcases spec with ⟨q, i, hq1, hsl, hpr⟩ | hpr
    · rw [sh, sh] at hpr
      rw [sh, ← wy] at hsl
      have hpr2 : t.probe (fun i => (es[i]?.map (·.1)).getD 0) (k.hash w) (stand.getD (t.probeStart (k.hash w))) = some (.candidate (L2.nth t.mask p0 (c + q)).j i (L2.nth t.mask p0 (c + (q + 1)))) := by
        rw [hst]
        exact hpr
      rw [hpr2]
      dsimp only
      obtain ⟨i2, e2, hi⟩ := hKb (c + q) (by omega)
      have ei : i = i2 := by
        rw [hsl] at e2
        cases e2
        rfl
      subst ei
      have hlt : i < es.size := by rw [R.sz]; exact hi
      have hgi : es[i]? = some es[i] := Array.getElem?_eq_getElem hlt
      obtain ⟨k2, y, g2, ee, ky⟩ := R.ent es[i] (by simp)
      rw [ee] at hgi
      have hne : k2 ≠ k := fun z => hnew _ (z ▸ g2)
      have rest : wpAny (model P w) A (L2.searchRest a (.ref x) (k.hash w) true f es t (L2.nth t.mask p0 (c + q)).j i (L2.nth t.mask p0 (c + (q + 1)))) Q E s := by
        unfold L2.searchRest
        rw [hgi]
        dsimp only
        refine wpAny_bind (wpAny_holding ((nestedKind P w).eqBool (x := k2) (y := k) hu ⟨ky.1, ky.2.1⟩ ⟨hx.1, hx.2.1⟩ ?_))
        refine wpAny_bind (wpAny_setState_of ho hd R.fits ?_)
        dsimp only
        refine wp_if_neg (by simp [hne]) ?_
        try refine wpAny_bind (wpAny_pure ?_)
        rw [L2.sameMem]
        dsimp only
        rw [wy] at hsl
        simp only [if_true, hsl, hgi]
        refine wpAny_bind (wpAny_isSame_ref_self (wpAny_bind (wpAny_pure ?_)))
        simp only [if_true]
        refine wp_if_neg (by simp [hne]) ?_
        exact new_from R hx hu hnew hKf hK hKb hq f (c + (q + 1)) _ (by rw [← hp0]; rfl) (by omega) (by omega)
      by_cases hl : t.led = true
      · refine wp_if_neg (by simp [hl]) ?_
        try refine wpAny_bind (wpAny_pure ?_)
        exact rest
      · refine wp_if_pos (by simp [hl]) ?_
        refine wpAny_bind (seen_it hx (fun y hy => ?_) ?_)
        · obtain ⟨e, he, e1⟩ := List.mem_map.mp hy
          have he1 : e ∈ es ∧ e.1 = k.hash w := by simpa using he
          obtain ⟨k3, c3, _, e3, z3⟩ := R.ent e (by simpa using he1.1)
          exact ⟨k3, c3, by rw [← e1, e3], z3⟩
        · refine wp_if_neg (by decide) ?_
          try refine wpAny_bind (wpAny_pure ?_)
          exact rest
    · have hpr2 : t.probe (fun i => (es[i]?.map (·.1)).getD 0) (k.hash w) (stand.getD (t.probeStart (k.hash w))) = some (.empty (L2.way t.mask (k.hash w) K) none) := by
        rw [hst, wy, show L2.nth t.mask p0 K = L2.nth t.mask (L2.nth t.mask p0 c) (K - c) by rw [sh, show c + (K - c) = K by omega]]
        exact hpr
      rw [hpr2]
      dsimp only
      exact wpAny_pure hq
theorem new_search (R : SetN w s.heap a n G es ep t) {x : Addr} {k : NestedKey} (hx : KAt s.heap k x) (hu : A.units + 8 < cLine) (hnew : ∀ c, ¬ G k c) {Q : SetFound → Shared → Prop} (hq : ∀ j, Q (.free j false) s) :
    wpAny (model P w) A (setSearch a (.ref x) (k.hash w) true) Q E s := by
  obtain ⟨K, hKf, hK, hKb⟩ := R.tab.first (k.hash w)
  have big : 10 * SetTable.turns t.mask < 100000 := by
    unfold SetTable.turns
    rcases R.tab.msk with e | e | e | e <;> omega
  unfold setSearch
  exact new_from R hx hu hnew hKf hK hKb (hq _) 100000 0 none rfl (Nat.zero_le _) (by omega)
end
end DC

set_option Elab.async false
set_option linter.all false
set_option maxRecDepth 100000
set_option maxHeartbeats 1000000
/-! Adding. -/
namespace DC
open PySem PySem.Spec PyProof.Rows L2
theorem IT.at_ {h h2 : Heap} (hk : ∀ a o vs m, h.get? a = some o → o.data = .seq vs m → h2.get? a = some o) : ∀ (n : Nat) (v : Value), IT h n v → IT h2 n v := by
  intro n
  induction n with
  | zero =>
    intro v x
    cases x
    exact .int _ _ _
  | succ n ih =>
    intro v x
    cases x with
    | int _ i t => exact .int _ _ _
    | tup ho hc hd hv => exact .tup (hk _ _ _ _ ho hd) hc hd fun v z => ih v (hv v z)
theorem KAt.at_ {h h2 : Heap} {k : NestedKey} {c : Addr} (hk : ∀ a o vs m, h.get? a = some o → o.data = .seq vs m → h2.get? a = some o) (x : KAt h k c) : KAt h2 k c :=
  ⟨NestedIs.at hk _ _ x.1, x.2.1, IT.at_ hk _ _ x.2.2⟩
theorem KAt.but {h h2 : Heap} {k : NestedKey} {a c : Addr} {o : Obj} {es : Array (Int × Value)} {ep : Nat} {t : SetTable} (ho : h.get? a = some o) (hd : o.data = .set es ep t) (sb : Heap.SameBut a h h2) (x : KAt h k c) : KAt h2 k c :=
  x.at_ fun b u vs m e q => (sb.2 b fun z => by
    subst z
    rw [ho] at e
    cases e
    rw [hd] at q
    cases q).trans e
theorem filterMap_len {α : Type} {es : Array α} : ∀ l : List Nat, (∀ k ∈ l, k < es.size) → (l.filterMap (es[·]?)).length = l.length
  | [], _ => rfl
  | k :: l, h => by
    have hk : k < es.size := h k List.mem_cons_self
    have e : es[k]? = some es[k] := Array.getElem?_eq_getElem hk
    rw [List.filterMap_cons_some e, List.length_cons, List.length_cons, filterMap_len l fun j hj => h j (List.mem_cons_of_mem _ hj)]
theorem size_512 : SetTable.sizeAbove (SetTable.grown 77) = 512 := by decide +kernel
section
variable {P : Program} {w : World} {A : Around} {E : Value → Shared → Prop} {s : Shared} {a : Addr} {n : Nat} {G : NestedKey → Addr → Prop} {es : Array (Int × Value)} {ep : Nat} {t : SetTable}
theorem relay_new {o : Obj} (ho : s.heap.get? a = some o) (hex : o.ExactSet) (hd : o.data = .set es ep t) (hsz : es.size = n) (hpl : t.place.size = n) (hdm : t.dummies = #[]) (hfl : n ≤ t.mask)
    (ent : ∀ e, e ∈ es.toList → ∃ k c, G k c ∧ e = (k.hash w, Value.ref c) ∧ KAt s.heap k c) (pl : t.plain = true) (ld : w.params.followText "set-order" = true ∨ t.led = true) {wanted M : Nat}
    (hw : SetTable.sizeAbove wanted - 1 = M) (hM : Msk M) (hw2 : SetTable.sizeAbove wanted ≤ 512) (hn : n * 5 < M * 3) {Q : Unit → Shared → Prop}
    (hQ : ∀ h2 es2 ep2 t2, Heap.SameBut a s.heap h2 → SetN w h2 a n G es2 ep2 t2 → Q () { s with heap := h2 }) : wpAny (model P w) A (setRelay a wanted) Q E s := by
  have hfits : t.fits es.size = true := by
    unfold SetTable.fits SetTable.fill
    rw [hdm, Bool.and_eq_true, beq_iff_eq, decide_eq_true_eq]
    show t.place.size = es.size ∧ t.place.size + 0 ≤ t.mask
    omega
  obtain ⟨t2, order, e, os, ol, z1, z2, z3, z4, z5⟩ := relaid_new t (hs := es.map (·.1)) (wanted := wanted) hw hM.cov (by rw [Array.size_map, hsz]; omega)
  rw [Array.size_map] at os ol z1
  have ef : (order.filterMap (es[·]?)).toList = order.toList.filterMap (es[·]?) := by simp
  have hs2 : (order.filterMap (es[·]?)).size = es.size := by
    rw [← Array.length_toList, ef, filterMap_len _ ol, Array.length_toList, os]
  rw [L2.setRelay_eq]
  refine wpAny_bind (wpAny_setState_of ho hd hfits ?_)
  dsimp only
  refine wp_if_neg (by rw [sizeLine_eq]; omega) ?_
  try refine wpAny_bind (wpAny_pure ?_)
  rw [e]
  dsimp only
  refine wpAny_bind ?_
  refine wp_if_neg (by rw [hs2]; simp) ?_
  try refine wpAny_bind (wpAny_pure ?_)
  refine wpAny_pure ?_
  dsimp only
  refine wpAny_storeSet_of ho hd ?_ (by rw [hs2, hsz, sizeLine_eq]; rcases hM with z | z | z | z <;> omega)
  have sb : Heap.SameBut a s.heap (s.heap.update a (Obj.putSet (order.filterMap (es[·]?)) t2)) := Heap.SameBut.update ..
  refine hQ _ (order.filterMap (es[·]?)) (ep + 1) t2 sb ⟨⟨_, store_at ho hd, ⟨hex.1, hex.2.1, hex.2.2⟩, rfl⟩, by rw [hs2, hsz], ⟨z5, by rw [z1, hsz], by rw [z2]; exact hM, by rw [z2]; exact hn⟩, fun x hx => ?_, by rw [z4]; exact pl, by rw [z3]; exact ld⟩
  rw [ef] at hx
  obtain ⟨i, _, hi⟩ := List.mem_filterMap.mp hx
  obtain ⟨k, c, g, e3, kc⟩ := ent x (Array.mem_toList_iff.mpr (Array.mem_of_getElem? hi))
  exact ⟨k, c, g, e3, kc.but ho hd sb⟩
/-- a new key is added -/
theorem add_new (R : SetN w s.heap a n G es ep t) {x : Addr} {k : NestedKey} (hx : KAt s.heap k x) (hu : A.units + 8 < cLine) (hnew : ∀ c, ¬ G k c) (hfew : n < 300) {Q : Bool → Shared → Prop}
    (hQ : ∀ b h2 es2 ep2 t2, Heap.SameBut a s.heap h2 → SetN w h2 a (n + 1) (fun z c => G z c ∨ (z = k ∧ c = x)) es2 ep2 t2 → Q b { s with heap := h2 }) :
    wpAny (model P w) A (setAddHashed a (.ref x) (k.hash w)) Q E s := by
  obtain ⟨o, ho, hex, hd⟩ := R.ob
  have hsl := R.sz
  have hroom := R.tab.room
  unfold setAddHashed
  refine wpAny_holding ?_
  rw [show (100000 : Nat) = 99999 + 1 from rfl, L2.setAddHashedIn_succ]
  refine wpAny_bind (wpAny_setState_of ho hd R.fits ?_)
  dsimp only
  refine wp_if_neg (by simp [byScan, Value.scannable]) ?_
  try refine wpAny_bind (wpAny_pure ?_)
  refine wpAny_bind (new_search R hx hu hnew fun j => ?_)
  dsimp only
  refine wpAny_bind (wpAny_setState_of ho hd R.fits ?_)
  dsimp only
  have q1 : (t.put j).1.place.size = n + 1 := by
    rw [← Array.length_toList, L2.put_place, List.length_append, List.length_cons, List.length_take, List.length_drop, Array.length_toList, R.tab.sz]
    omega
  have q2 := L2.put_dm R.tab.dm j
  have q3 : (t.put j).1.mask = t.mask := rfl
  have q4 : (t.put j).1.led = t.led := rfl
  have q5 : (t.put j).1.plain = true := R.plain
  generalize hpt : t.put j = pt at q1 q2 q3 q4 q5 ⊢
  obtain ⟨t1, p⟩ := pt
  dsimp only at q1 q2 q3 q4 q5 ⊢
  first
    | (refine wpAny_bind ?_; refine wp_if_pos q5 ?_; refine hashBy_it 8 _ hx.2.2 ?_)
    | refine wp_if_pos q5 (wpAny_bind (hashBy_it 8 _ hx.2.2 ?_))
  simp only [if_true]
  have hin : (SetTable.insertAt es p (k.hash w, Value.ref x)).toList = es.toList.take p ++ (k.hash w, Value.ref x) :: es.toList.drop p := SetTable.toList_insertAt _ _ _
  have hes : (SetTable.insertAt es p (k.hash w, Value.ref x)).size = n + 1 := by
    rw [← Array.length_toList, hin, List.length_append, List.length_cons, List.length_take, List.length_drop, Array.length_toList]
    omega
  have hmem : ∀ e, e ∈ (SetTable.insertAt es p (k.hash w, Value.ref x)).toList → e = (k.hash w, Value.ref x) ∨ e ∈ es.toList := fun e he => by
    rw [hin] at he
    rcases List.mem_append.mp he with z | z
    · exact .inr (List.mem_of_mem_take z)
    · rcases List.mem_cons.mp z with z | z
      · exact .inl z
      · exact .inr (List.mem_of_mem_drop z)
  generalize SetTable.insertAt es p (k.hash w, Value.ref x) = es1 at hes hmem ⊢
  refine wpAny_bind (wpAny_storeSet_of ho hd ?_ (by rw [hes, sizeLine_eq]; omega))
  have sb : Heap.SameBut a s.heap (s.heap.update a (Obj.putSet es1 t1)) := Heap.SameBut.update ..
  have ho1 := store_at (es' := es1) (t' := t1) ho hd
  generalize s.heap.update a (Obj.putSet es1 t1) = h1 at sb ho1 ⊢
  have ent1 : ∀ e, e ∈ es1.toList → ∃ k2 c, (G k2 c ∨ (k2 = k ∧ c = x)) ∧ e = (k2.hash w, Value.ref c) ∧ KAt h1 k2 c := fun e he => by
    rcases hmem e he with z | z
    · exact ⟨k, x, .inr ⟨rfl, rfl⟩, z, hx.but ho hd sb⟩
    · obtain ⟨k2, c, g, e2, kc⟩ := R.ent e z
      exact ⟨k2, c, .inl g, e2, kc.but ho hd sb⟩
  have ld1 : w.params.followText "set-order" = true ∨ t1.led = true := by rw [q4]; exact R.led
  have fil : t1.fill = n + 1 := by
    unfold SetTable.fill
    rw [q1, q2]
    rfl
  by_cases hf : t1.tooFull = true
  · first
      | (refine wpAny_bind ?_; refine wp_if_pos (by simp [hf]) ?_)
      | (refine wp_if_pos (by simp [hf]) ?_; refine wpAny_bind ?_)
    have hfull : (n + 1) * 5 ≥ t1.mask * 3 := by
      have h := hf
      unfold SetTable.tooFull at h
      rw [decide_eq_true_eq, fil] at h
      exact h
    rw [hsl]
    have cs : (t.mask = 7 ∧ n = 4) ∨ (t.mask = 31 ∧ n = 18) ∨ (t.mask = 127 ∧ n = 76) := by
      rw [q3] at hfull
      rcases R.tab.msk with e | e | e | e <;> rw [e] at hfull hroom
      · exact .inl ⟨e, by omega⟩
      · exact .inr (.inl ⟨e, by omega⟩)
      · exact .inr (.inr ⟨e, by omega⟩)
      · omega
    have go : ∀ M, SetTable.sizeAbove (SetTable.grown (n + 1)) - 1 = M → Msk M → SetTable.sizeAbove (SetTable.grown (n + 1)) ≤ 512 → (n + 1) * 5 < M * 3 →
        wpAny (model P w) A (setRelay a (SetTable.grown (n + 1))) (fun _ s' => wpAny (model P w) A (pure true) Q E s') E { s with heap := h1 } := fun M y1 y2 y3 y4 => by
      refine relay_new (s := { s with heap := h1 }) (n := n + 1) ho1 ⟨hex.1, hex.2.1, hex.2.2⟩ rfl hes q1 q2 (by rw [q3]; rcases cs with ⟨e, e2⟩ | ⟨e, e2⟩ | ⟨e, e2⟩ <;> omega) ent1 q5 ld1 y1 y2 y3 y4 ?_
      intro h2 es2 ep2 t2 sb2 R2
      exact wpAny_pure (hQ true h2 es2 ep2 t2 (sb.trans sb2) R2)
    rcases cs with ⟨_, e2⟩ | ⟨_, e2⟩ | ⟨_, e2⟩
    · exact go 31 (by rw [e2, L2.size_20]) (.inr (.inl rfl)) (by rw [e2, L2.size_20]; decide) (by omega)
    · exact go 127 (by rw [e2, L2.size_76]) (.inr (.inr (.inl rfl))) (by rw [e2, L2.size_76]; decide) (by omega)
    · exact go 511 (by rw [e2, size_512]) (.inr (.inr (.inr rfl))) (by rw [e2, size_512]; decide) (by omega)
  · first
      | refine wp_if_neg (by simp [hf]) ?_
      | (refine wpAny_bind ?_; refine wp_if_neg (by simp [hf]) ?_; refine wpAny_pure ?_)
    refine wpAny_pure (hQ true h1 es1 (ep + 1) t1 sb ⟨⟨_, ho1, ⟨hex.1, hex.2.1, hex.2.2⟩, rfl⟩, hes, ⟨q2, q1, by rw [q3]; exact R.tab.msk, ?_⟩, ent1, q5, ld1⟩)
    have h := hf
    unfold SetTable.tooFull at h
    rw [decide_eq_true_eq, fil] at h
    omega
end
end DC

set_option Elab.async false
set_option linter.all false
set_option maxRecDepth 100000
set_option maxHeartbeats 3200000
/-! set(xs) of new keys. -/
namespace DC
open PySem PySem.Spec PyProof.Rows L2
theorem SetN.stay {w : World} {h h2 : Heap} {a : Addr} {n : Nat} {G G2 : NestedKey → Addr → Prop} {es : Array (Int × Value)} {ep : Nat} {t : SetTable} (R : SetN w h a n G es ep t) (ha : ∀ o, h.get? a = some o → h2.get? a = some o) (hk : ∀ k c, G k c → G2 k c ∧ KAt h2 k c) : SetN w h2 a n G2 es ep t :=
  ⟨by obtain ⟨o, ho, r⟩ := R.ob; exact ⟨o, ha o ho, r⟩, R.sz, R.tab, fun e he => by
    obtain ⟨k, c, q, e2, z⟩ := R.ent e he
    exact ⟨k, c, (hk k c q).1, e2, (hk k c q).2⟩, R.plain, R.led⟩
abbrev freshT (w : World) : SetTable := .fresh 0 0 (!w.params.followText "set-order")
abbrev freshO (w : World) : Obj := { cls := .type "set", dict := none, data := .set #[] 0 (freshT w) }
theorem setN_fresh {w : World} {h : Heap} {a : Addr} {G : NestedKey → Addr → Prop} (ho : h.get? a = some (freshO w)) : SetN w h a 0 G #[] 0 (freshT w) where
  ob := ⟨_, ho, ⟨rfl, rfl, rfl⟩, rfl⟩
  sz := rfl
  tab := ⟨rfl, rfl, .inl rfl, by show 0 * 5 < 7 * 3; omega⟩
  ent := fun e he => by simp at he
  plain := rfl
  led := by
    cases z : w.params.followText "set-order"
    · right
      show (!w.params.followText "set-order") = true
      rw [z]
      rfl
    · exact .inl rfl
abbrev first_ (ks : List (Addr × NestedKey)) (i : Nat) (z : NestedKey) (c : Addr) : Prop := (c, z) ∈ ks.take i
theorem first_new {ks : List (Addr × NestedKey)} (nd : (ks.map (·.2)).Nodup) {i : Nat} {p : Addr × NestedKey} (hp : ks[i]? = some p) (c : Addr) : ¬ first_ ks i p.2 c := by
  intro hq
  obtain ⟨j, hj⟩ := List.mem_iff_getElem?.mp hq
  rw [List.getElem?_take] at hj
  by_cases hji : j < i
  · rw [if_pos hji] at hj
    have a1 : (ks.map (·.2))[i]? = some p.2 := by rw [List.getElem?_map, hp]; rfl
    have a2 : (ks.map (·.2))[j]? = some p.2 := by rw [List.getElem?_map, hj]; rfl
    have := (List.getElem?_inj (List.getElem?_eq_some_iff.mp a1).1 nd).mp (a1.trans a2.symm)
    omega
  · rw [if_neg hji] at hj
    cases hj
theorem first_next {ks : List (Addr × NestedKey)} {i : Nat} {p : Addr × NestedKey} (hp : ks[i]? = some p) (z : NestedKey) (c : Addr) (h : first_ ks i z c ∨ (z = p.2 ∧ c = p.1)) : first_ ks (i + 1) z c := by
  unfold first_
  rw [L2.take_next hp, List.mem_append]
  rcases h with h | ⟨rfl, rfl⟩
  · exact .inl h
  · right
    simp
section
variable {P : Program} {w : World} {A : Around} {E : Value → Shared → Prop} {s : Shared}
/-- all of h0 is in h -/
abbrev Kpt (h0 h : Heap) : Prop := ∀ b o, h0.get? b = some o → h.get? b = some o
theorem upd_new {I : Addr} {fp wr : List Addr} {J : Array GenState → Array GenState → Prop} {N : Nat} {Pv : Nat → Value → Prop} {St : Nat → Shared → Prop} {R : Result → Shared → Prop}
    (W : WalksS P w A.in1 I fp wr J N Pv St) (S : Addr) (hSf : S ∉ fp) (ks : List (Addr × NestedKey)) (hn : N = ks.length) (nd : (ks.map (·.2)).Nodup) (few : ks.length ≤ 300) (hval : ∀ i v, Pv i v → ∃ p, ks[i]? = some p ∧ v = .ref p.1)
    (h0 : Heap) (hk : ∀ p ∈ ks, KAt h0 p.2 p.1) (hS0 : h0.get? S = none) (hw0 : ∀ b ∈ wr, h0.get? b = none) (hu : A.in1.units + 8 < cLine) :
    ∀ (k i : Nat) (s : Shared), N - i = k → i ≤ N → St i s → Kpt h0 s.heap → (∃ es ep t, SetN w s.heap S i (first_ ks i) es ep t) →
      (∀ s2 es ep t, Moved (S :: wr) J s s2 → SetN w s2.heap S N (first_ ks N) es ep t → Kpt h0 s2.heap → R (.ok (.ret .none)) s2) →
      codeAny (model P w) A (.builtin "set.update.loop" ⟨[.ref S, .ref I], []⟩) R s := by
  have hSw : S ∉ wr := fun h => hSf (W.sub _ h)
  have sub : ∀ b ∈ wr, b ∈ S :: wr := fun b hb => .tail _ hb
  have mv : ∀ {s s2 : Shared}, Moved wr J s s2 → Kpt h0 s.heap → Kpt h0 s2.heap := fun hm kp b o e => hm.heap b o (fun hb => by rw [hw0 b hb] at e; cases e) (kp b o e)
  have key : ∀ {h : Heap} {p : Addr × NestedKey}, Kpt h0 h → p ∈ ks → KAt h p.2 p.1 := fun kp hp => (hk _ hp).at_ fun b o _ _ e _ => kp b o e
  have fst : ∀ {i : Nat} {h : Heap}, Kpt h0 h → ∀ k c, first_ ks i k c → first_ ks i k c ∧ KAt h k c := fun kp k c q => ⟨q, key (p := (c, k)) kp (List.mem_of_mem_take q)⟩
  intro k
  induction k with
  | zero =>
    intro i s hki hi hst kp ⟨es, ep, t, hS⟩ hR
    obtain rfl : i = N := by omega
    refine codeAny_builtin F.entry_set_update_loop ?_
    rw [Around.under_plainId F.plain_set_update_loop _]
    show wpAny _ A.in1 (pyNext (.ref I) >>= _) _ _ s
    refine wpAny_bind (W.done s _ _ hst fun s2 hm => ?_)
    have kp2 := mv hm kp
    exact wpAny_pure (hR s2 es ep t (hm.mono sub) (hS.stay (fun o e => hm.heap S o hSw e) (fst kp2)) kp2)
  | succ k ih =>
    intro i s hki hi hst kp ⟨es, ep, t, hS⟩ hR
    have hlt : i < N := by omega
    refine codeAny_builtin F.entry_set_update_loop ?_
    rw [Around.under_plainId F.plain_set_update_loop _]
    show wpAny _ A.in1 (pyNext (.ref I) >>= _) _ _ s
    refine wpAny_bind (W.item i s _ _ hlt hst fun v s2 hP hst2 hm => ?_)
    obtain ⟨p, hp, rfl⟩ := hval i v hP
    have kp2 := mv hm kp
    have hS2 : SetN w s2.heap S i (first_ ks i) es ep t := hS.stay (fun o e => hm.heap S o hSw e) (fst kp2)
    have hx : KAt s2.heap p.2 p.1 := key kp2 (List.mem_of_getElem? hp)
    show wpAny _ A.in1 (holding [Value.ref p.1] (setAdd S (.ref p.1)) >>= _) _ _ s2
    refine wpAny_bind (wpAny_holding ?_)
    unfold setAdd
    refine wpAny_holding ?_
    refine wpAny_bind ((nestedKind P w).pyHash (k := p.2) hu ⟨hx.1, hx.2.1⟩ ?_)
    refine add_new (s := { s2 with toks := s2.toks + (nestedKind P w).draws p.2 }) hS2 hx hu (first_new nd hp) (by omega) fun b h3 es3 ep3 t3 sb hS3 => ?_
    have kp3 : Kpt h0 h3 := fun b o e => (sb.2 b (fun z => by rw [z, hS0] at e; cases e)).trans (kp2 b o e)
    refine wpAny_pure ⟨plainId_quiet F.plain_set_update_loop _, ih (i + 1) _ (by omega) hlt (W.frame _ s2 _ _ hst2 (Nat.le_add_right _ _) fun b hb o e => ?_) kp3 ⟨es3, ep3, t3, hS3.stay (fun _ e => e) fun k c q => ?_⟩ fun s4 es4 ep4 t4 hm4 hS4 kp4 => ?_⟩
    · rw [sb.2 b (fun z => hSf (by rw [← z]; exact hb))]
      exact e
    · have q2 := first_next hp k c q
      exact ⟨q2, (fst kp3 k c q2).2⟩
    · refine hR s4 es4 ep4 t4 (Moved.trans W.gtrans ((hm.mono sub).then_heap (Nat.le_add_right _ _) fun b o hb e => ?_) hm4) hS4 kp4
      rw [sb.2 b (fun z => hb (by rw [z]; exact List.mem_cons_self))]
      exact e
end
end DC

set_option Elab.async false
set_option linter.all false
set_option maxRecDepth 100000
set_option maxHeartbeats 3200000
/-! set(xs) of new keys. -/
namespace DC
open PySem PySem.Spec PyProof.Rows L2
section
variable {P : Program} {w : World} {A : Around} {E : Value → Shared → Prop} {s : Shared}
/-- the heap with a fresh set -/
abbrev pushS (w : World) (h : Heap) : Heap := h.push (freshO w)
theorem call_set_new {l : Addr} {items : Array Value} (ks : List (Addr × NestedKey)) {Q : Value → Shared → Prop} (hh : A.handled = none) (hl : s.heap.IsList l items) (hit : items.toList = ks.map fun p => Value.ref p.1)
    (hk : ∀ p ∈ ks, KAt s.heap p.2 p.1) (nd : (ks.map (·.2)).Nodup) (few : ks.length ≤ 300) (hu : A.units + 16 < cLine)
    (h : ∀ (h2 : Heap) (tk : Nat) es ep t, SetN w h2 s.heap.objs.size ks.length (first_ ks ks.length) es ep t → Kpt s.heap h2 → Q (.ref s.heap.objs.size) { s with heap := h2, toks := tk }) :
    wpAny (model P w) A (call (.type "set") [.ref l]) Q E s := by
  have hisz : items.size = ks.length := by rw [← Array.length_toList, hit, List.length_map]
  obtain ⟨c, tl, hmro⟩ := F.called_set.mro
  have hmade := F.called_set.made
  have hsub := F.called_set.sub
  refine wpAny_call (codeAny_of_tree ?_)
  show wpAny _ _ (callAny (.type "set") _) _ _ _
  refine wpAny_pure ⟨Code.quiet_builtin _ (by decide +kernel), codeAny_builtin F.entry_type_call ?_⟩
  rw [Around.under_plain (weight_type_call_type "set" [.ref l] []) rfl]
  have h1 := F.called_set.notType
  have h2 := F.called_set.canCreate
  have hct := F.typeCall_set_1 (.ref l)
  repeat (any_goals (first | assumption | wp_step))
  refine codeAny_mono (code_set_led1 (.ref l) (E := E) (Q₁ := fun u s1 => u = .ref s.heap.objs.size ∧ s1 = { s with heap := pushS w s.heap }) ⟨rfl, rfl⟩) fun r s1 hr => ?_
  cases r with
  | error e => exact hr
  | ok fl =>
    cases fl with
    | ret u =>
      obtain ⟨rfl, rfl⟩ := hr
      have hS : (pushS w s.heap).get? s.heap.objs.size = some (freshO w) := Heap.get?_push_size _ rfl
      have hT : Shared.TypeIs { s with heap := pushS w s.heap } (.ref s.heap.objs.size) "set" := ⟨_, hS, rfl⟩
      have hli := F.called_set.init.lookup
      have hbi := F.called_set.init.bind (.ref s.heap.objs.size)
      repeat (any_goals (first | assumption | wp_step))
      refine codeAny_mono (codeAny_call_builtin (R := wants (fun r s2 => r = .none ∧ ∃ h2 tk es ep t, s2 = { s with heap := h2, toks := tk } ∧ SetN w h2 s.heap.objs.size ks.length (first_ ks ks.length) es ep t ∧ Kpt s.heap h2) E)
        F.called_set.init.plain F.entry_set_init (check_set_init_1 hT ?_)) fun r2 s2 hr2 => ?_
      · obtain ⟨ol, hol, hcl, nl, hdl⟩ := hl
        obtain ⟨ocls, odict, odata, oslots⟩ := ol
        dsimp only at hcl hdl
        subst hcl
        subst hdl
        have hol2 : (pushS w s.heap).get? l = some { cls := .type "list", dict := odict, data := .seq items nl, slots := oslots } := Heap.get?_push_of_some _ hol
        have hsls := F.sub_list_set
        have hslf := F.sub_list_frozenset
        have hne : (Value.type "list" == Value.type "dict") = false := by decide
        have hl1 : (pushS w s.heap).IsList l items := ⟨_, hol2, rfl, nl, rfl⟩
        unfold Builtin.«set.__init__» noKeywords Builtin.Frozenset.updateFrom
        generalize hPI : pyIter = PI
        wp_walk
        subst hPI
        refine wpAny_pyIter_list hl1 ?_
        refine wpAny_bind (wpAny_runValue ?_)
        have hlS : l < s.heap.objs.size := Heap.lt_size hol
        have hh3 : A.in1.in1.in1.handled = none := by simp [hh]
        have sz1 : (pushS w s.heap).objs.size = s.heap.objs.size + 1 := Heap.size_push ..
        have hneI : l ≠ (pushS w s.heap).objs.size := by rw [sz1]; exact Nat.ne_of_lt (Nat.lt_succ_of_lt hlS)
        have hSf : s.heap.objs.size ∉ [(pushS w s.heap).objs.size, l] := by
          rw [sz1]
          simp only [List.mem_cons, List.not_mem_nil, or_false, not_or]
          exact ⟨Nat.ne_of_lt (Nat.lt_succ_self _), Nat.ne_of_gt hlS⟩
        have hval : ∀ (i : Nat) (v : Value), items[i]? = some v → ∃ p, ks[i]? = some p ∧ v = .ref p.1 := fun i v hv => by
          rw [← Array.getElem?_toList, hit, List.getElem?_map] at hv
          cases q : ks[i]? with
          | none => rw [q] at hv; cases hv
          | some p =>
            rw [q] at hv
            exact ⟨p, rfl, (Option.some.inj hv).symm⟩
        have out : ∀ b, s.heap.objs.size ≤ b → s.heap.get? b = none := fun b hb => by
          cases q : s.heap.get? b with
          | none => rfl
          | some o => exact absurd (Heap.lt_size q) (Nat.not_lt_of_ge hb)
        refine upd_new ((Walks.list hh3 _ l hneI items).toS) s.heap.objs.size hSf ks hisz nd few hval s.heap hk (out _ (Nat.le_refl _)) (fun b hb => out b (by
            rw [List.mem_singleton.mp hb, sz1]
            exact Nat.le_succ _)) (by simp only [Around.in1_units]; omega) (items.size - 0) 0 _ (by omega) (Nat.zero_le _) ⟨⟨_, Heap.get?_push_size _ rfl, rfl, rfl⟩, hl1.push _⟩ (fun b o e => Heap.get?_push_of_some _ (Heap.get?_push_of_some _ e)) ?hS0 ?hR
        case hS0 => exact ⟨#[], 0, _, setN_fresh (Heap.get?_push_of_some _ hS)⟩
        case hR =>
          intro s3 es ep t hm hS3 kp
          obtain ⟨h3, g3, d3, tk, os3⟩ := s3
          obtain rfl : g3 = s.gens := hm.gens
          obtain rfl : d3 = s.drawn := hm.drawn
          obtain rfl : os3 = s.os := hm.os
          show wpAny _ _ _ _ _ _
          refine wpAny_pure ?_
          show wpAny _ _ (ret Value.none) _ _ _
          rw [hisz] at hS3
          exact wpAny_pure ⟨rfl, h3, tk, es, ep, t, rfl, hS3, kp⟩
      · cases r2 with
        | error e => exact hr2
        | ok fl2 =>
          cases fl2 with
          | ret r =>
            obtain ⟨rfl, h3, tk, es, ep, t, rfl, hS3, kp⟩ := hr2
            repeat (any_goals (first | assumption | wp_step))
            exact h _ _ _ _ _ hS3 kp
          | _ => exact hr2.elim
    | _ => exact hr.elim
end
end DC

set_option Elab.async false
set_option linter.all false
set_option maxRecDepth 100000
set_option maxHeartbeats 3200000
/-! Data as keys. -/
namespace DC
open PySem PySem.Spec PyProof.Rows L2
mutual
def keyD : PyData → NestedKey
  | .int i => .num i
  | .tuple ds => .tup (keyDs ds)
  | _ => .none
def keyDs : List PyData → List NestedKey
  | [] => []
  | d :: ds => keyD d :: keyDs ds
end
mutual
theorem keyD_inj : ∀ (d e : PyData) (n m : Nat), itD d n = true → itD e m = true → keyD d = keyD e → d = e
  | .int i, e, n, m, _, h2, q => by
    cases e <;> simp [itD, keyD] at h2 q
    rw [q]
  | .tuple ds, e, n, m, h1, h2, q => by
    cases n with
    | zero => simp [itD] at h1
    | succ n =>
      cases e <;> simp [keyD] at q <;> try (simp [itD] at h2; done)
      rename_i es
      cases m with
      | zero => simp [itD] at h2
      | succ m =>
        simp only [itD] at h1 h2
        rw [keyDs_inj ds es n m h1 h2 q]
  | .none, _, _, _, h1, _, _ | .bool _, _, _, _, h1, _, _ | .str _, _, _, _, h1, _, _ | .list _, _, _, _, h1, _, _ | .dict _, _, _, _, h1, _, _ => by simp [itD] at h1
theorem keyDs_inj : ∀ (ds es : List PyData) (n m : Nat), itDs ds n = true → itDs es m = true → keyDs ds = keyDs es → ds = es
  | [], [], _, _, _, _, _ => rfl
  | [], _ :: _, _, _, _, _, q => by simp [keyDs] at q
  | _ :: _, [], _, _, _, _, q => by simp [keyDs] at q
  | d :: ds, e :: es, n, m, h1, h2, q => by
    simp only [itDs, Bool.and_eq_true] at h1 h2
    simp only [keyDs, List.cons.injEq] at q
    rw [keyD_inj d e n m h1.1 h2.1 q.1, keyDs_inj ds es n m h1.2 h2.2 q.2]
end
mutual
theorem keyD_depth : ∀ (d : PyData) (n : Nat), itD d n = true → (keyD d).depth ≤ n
  | .int i, n, _ => by simp [keyD, NestedKey.depth]
  | .tuple ds, 0, h => by simp [itD] at h
  | .tuple ds, n + 1, h => by
    simp only [itD] at h
    have := keyDs_depth ds n h
    simp only [keyD, NestedKey.depth]
    omega
  | .none, _, h1 | .bool _, _, h1 | .str _, _, h1 | .list _, _, h1 | .dict _, _, h1 => by simp [itD] at h1
theorem keyDs_depth : ∀ (ds : List PyData) (n : Nat), itDs ds n = true → NestedKey.depthAll (keyDs ds) ≤ n
  | [], _, _ => by simp [keyDs, NestedKey.depthAll]
  | d :: ds, n, h => by
    simp only [itDs, Bool.and_eq_true] at h
    have a := keyD_depth d n h.1
    have b := keyDs_depth ds n h.2
    simp only [keyDs, NestedKey.depthAll]
    omega
end
section
variable {X : Cx} {pins : List (Addr × Obj)} {σ : L2.St} {H : Hp} {s : Shared}
mutual
theorem keyD_is (I : Inv X pins σ H s) : ∀ (d : PyData) (n : Nat) (v : V) (u : Value), itD d n = true → Dp X.K H v d → RelV v u → NestedIs s.heap (keyD d) u ∧ IT s.heap n u
  | .int i, n, v, u, _, h, r => by
    cases h
    obtain ⟨t, rfl⟩ := r
    exact ⟨.int i t, .int n i t⟩
  | .tuple ds, 0, _, _, h, _, _ => by simp [itD] at h
  | .tuple ds, n + 1, v, u, h, hd, r => by
    simp only [itD] at h
    cases hd with
    | tup sq al =>
      cases r
      obtain ⟨its, rv, ⟨o, ho, hc, m, hdt⟩, _⟩ := I.tuple sq
      obtain ⟨a1, a2⟩ := keyDs_is I ds n _ its h al rv
      exact ⟨.tup ho hc hdt (by simpa [keyD] using a1), .tup ho hc hdt (by simpa using a2)⟩
  | .none, _, _, _, h1, _, _ | .bool _, _, _, _, h1, _, _ | .str _, _, _, _, h1, _, _ | .list _, _, _, _, h1, _, _ | .dict _, _, _, _, h1, _, _ => by simp [itD] at h1
theorem keyDs_is (I : Inv X pins σ H s) : ∀ (ds : List PyData) (n : Nat) (vs : List V) (us : List Value), itDs ds n = true → DpAll X.K H vs ds → Vals vs us → NestedAll s.heap (keyDs ds) us ∧ ∀ u, u ∈ us → IT s.heap n u
  | [], _, _, _, _, h, r => by
    cases h
    cases r
    exact ⟨.nil, fun u hu => by cases hu⟩
  | d :: ds, n, _, _, h, hd, r => by
    simp only [itDs, Bool.and_eq_true] at h
    cases hd with
    | cons x xs =>
      cases r with
      | cons y ys =>
        obtain ⟨a1, a2⟩ := keyD_is I d n _ _ h.1 x y
        obtain ⟨b1, b2⟩ := keyDs_is I ds n _ _ h.2 xs ys
        refine ⟨.cons a1 b1, fun u hu => ?_⟩
        rcases List.mem_cons.mp hu with z | z
        · rw [z]; exact a2
        · exact b2 u z
end
end
end DC

set_option Elab.async false
set_option linter.all false
set_option maxRecDepth 100000
set_option maxHeartbeats 1000000
/-! len(set(xs)), xs distinct nested tuples of ints. -/
namespace DC
open PySem PySem.Spec PyProof.Rows L2
section
variable {X : Cx} {pins : List (Addr × Obj)} {σ : L2.St} {H : Hp} {s : Shared}
theorem keys_of (I : Inv X pins σ H s) : ∀ {xs : List V} {its : List Value} {ds : List PyData}, DpAll X.K H xs ds → Vals xs its → (∀ d ∈ ds, isT8 d = true) →
    ∃ ks : List (Addr × NestedKey), its = ks.map (fun p => Value.ref p.1) ∧ ks.map (·.2) = ds.map keyD ∧ ∀ p ∈ ks, KAt s.heap p.2 p.1
  | _, _, _, .nil, r, _ => by
    cases r
    exact ⟨[], rfl, rfl, fun p hp => by cases hp⟩
  | _, _, _, .cons (d := d) x xs, r, h => by
    cases r with
    | cons y ys =>
      obtain ⟨ks, rfl, e, hk⟩ := keys_of I xs ys fun d hd => h d (.tail _ hd)
      have h8 := h d List.mem_cons_self
      cases d <;> simp [isT8] at h8
      rename_i es
      have hi : itD (.tuple es) 8 = true := h8
      obtain ⟨a1, a2⟩ := keyD_is I (.tuple es) 8 _ _ hi x y
      have dp := keyD_depth (.tuple es) 8 hi
      cases x
      cases y
      refine ⟨(_, keyD (.tuple es)) :: ks, rfl, by simp [e], fun p hp => ?_⟩
      rcases List.mem_cons.mp hp with rfl | hp
      · exact ⟨a1, dp, a2⟩
      · exact hk p hp
end
theorem isT8_it {d : PyData} (h : isT8 d = true) : itD d 8 = true := by
  cases d <;> simp [isT8] at h
  exact h
theorem nodup_key {ds : List PyData} (nd : ds.Nodup) (h : ∀ d ∈ ds, isT8 d = true) : (ds.map keyD).Nodup :=
  List.pairwise_map.mpr (List.Pairwise.imp_of_mem (fun {a b} ha hb ne e => ne (keyD_inj a b 8 8 (isT8_it (h a ha)) (isT8_it (h b hb)) e)) nd)
def tLenSetN (K : PySem.W.Frag) (ta : TE) : TE := fun σ H Q => ta σ H fun x H1 => ∃ (l : Addr) (xs : List V) (ds : List PyData), x = .ref l ∧ SqL K H1 l xs ∧ DpAll K H1 xs ds ∧ ds.Nodup ∧ ds.length ≤ 125 ∧ (∀ d ∈ ds, isT8 d = true) ∧ Q (.int (ds.length : Nat)) H1
theorem pe_lenSetN {X : Cx} {a : Expr} {ta : TE} {p p2 q pos : Pos} (hc : X.calm = true) (hu : X.A.units + 64 < cLine) (hg : Gl X "len") (hm : X.mg "len" = none) (hg2 : Gl X "set") (hm2 : X.mg "set" = none) (ha : PE X a ta)
    (na : starEach [a] X.env = (false, eval a X.env) :: starEach [] X.env) : PE X (.Call (.Name "len" p) [.Call (.Name "set" p2) [a] [] q] [] pos) (tLenSetN X.K ta) := by
  refine ⟨fun pins s σ H Q I h => ?_⟩
  refine Call_ (ld_blt I hg hm boot_len ?_)
  refine callWith_builtin1 (args_cons ?_ rfl) rfl rfl
  refine Call_ (ld_blt I hg2 hm2 boot_set ?_)
  refine callWith_type1 (args_cons (thn (ha.run pins s σ H _ I h) fun v s1 ⟨x, H1, I1, r1, q1⟩ => args_nil ?_) na) na rfl
  obtain ⟨l, xs, ds, rfl, sq, al, nd, few, t8, q1⟩ := q1
  cases r1
  obtain ⟨its, r, pl, hz⟩ := I1.list sq
  obtain ⟨ks, rfl, e, hk⟩ := keys_of I1 al r t8
  have len : ks.length = ds.length := by
    have := congrArg List.length e
    simpa using this
  refine call_set_new ks (I1.ok.hd hc) pl.isList (by simp) hk (by rw [e]; exact nodup_key nd t8) (by omega) (by omega) fun h2 tk es ep t R kp => ?_
  refine args_nil ?_
  have fits := R.fits (s := { s1 with heap := h2, toks := tk })
  have sz := R.sz
  obtain ⟨o, ho, hex, hd⟩ := R.ob
  have I2 : Inv X pins σ H1 { s1 with heap := h2, toks := tk } := I1.kept fun b o e => kp b o e
  exact call_len_set ho hex hd fits (by rw [sz] <;> omega) ⟨.int ds.length, H1, I2.tok _, ⟨_, by rw [sz, len]⟩, q1⟩
end DC

set_option Elab.async false
set_option linter.all false
set_option maxRecDepth 100000
set_option maxHeartbeats 1000000
namespace DC
open PySem PySem.Spec PyProof.Rows L2
theorem de_lenSet {X : Cx} {e : Expr} {te : TE} {we : WE} {p p2 pos pos2 : Pos} (hc : X.calm = true) (hu : X.A.units + 64 < cLine) (hg : Gl X "len") (hm : X.mg "len" = none) (hg2 : Gl X "set") (hm2 : X.mg "set" = none) (he : DE X e te we)
    (hs : starEach [e] X.env = (false, eval e X.env) :: starEach [] X.env := by rfl)
    (hs2 : starEach [.Call (.Name "set" p2) [e] [] pos2] X.env = (false, eval (.Call (.Name "set" p2) [e] [] pos2) X.env) :: starEach [] X.env := by rfl) :
    DE X (.Call (.Name "len" p) [.Call (.Name "set" p2) [e] [] pos2] [] pos) (tLenSetN X.K te) (wLenSet we) := by
  refine ⟨pe_lenSetN hc hu hg hm hg2 hm2 he.pe hs, fun ρ Q h O L σ H I QV q => ?_⟩
  refine he.ev ρ _ h O L σ H I _ fun L1 v H1 r1 ρ1 g1 R1 h1 => ?_
  cases e1 : r1.dat with
  | none => simp only [e1] at h1
  | some d =>
    simp only [e1] at h1
    split at h1
    · rename_i ds hds
      cases hds
      obtain ⟨⟨nd, few, t8⟩, h1⟩ := h1
      obtain ⟨a, xs, rfl, s1, al⟩ := dp_listI (R1.dp e1)
      refine ⟨a, xs, ds, rfl, sql_mono less_sub s1, al.up less_sub, nd, few, t8, ?_⟩
      exact q L1 _ _ (.fz (.int (ds.length : Nat))) ρ1 g1 (.f R1.en (.int _)) h1
    · exact h1.elim
end DC

set_option Elab.async false
set_option linter.all false
set_option maxRecDepth 100000
set_option maxHeartbeats 1000000
namespace DC
open PySem PySem.Spec PyProof.Rows L2
@[simp] theorem isTy_int (d : PyData) : isTy "int" d = match d with
  | .int _ => true
  | .bool _ => true
  | _ => false := by cases d <;> simp only [isTy, tyOf] <;> decide +kernel
@[simp] theorem isTy_bool (d : PyData) : isTy "bool" d = match d with
  | .bool _ => true
  | _ => false := by cases d <;> simp only [isTy, tyOf] <;> decide +kernel
@[simp] theorem isTy_tuple (d : PyData) : isTy "tuple" d = match d with
  | .tuple _ => true
  | _ => false := by cases d <;> simp only [isTy, tyOf] <;> decide +kernel
@[simp] theorem isTy_str (d : PyData) : isTy "str" d = match d with
  | .str _ => true
  | _ => false := by cases d <;> simp only [isTy, tyOf] <;> decide +kernel
@[simp] theorem isTy_list (d : PyData) : isTy "list" d = match d with
  | .list _ => true
  | _ => false := by cases d <;> simp only [isTy, tyOf] <;> decide +kernel
@[simp] theorem kit_int (d : PyData) : (kitB (tyOf d) "int").isSome = true := by cases d <;> simp only [tyOf] <;> decide +kernel
@[simp] theorem kit_bool (d : PyData) : (kitB (tyOf d) "bool").isSome = true := by cases d <;> simp only [tyOf] <;> decide +kernel
@[simp] theorem kit_tuple (d : PyData) : (kitB (tyOf d) "tuple").isSome = true := by cases d <;> simp only [tyOf] <;> decide +kernel
@[simp] theorem kit_str (d : PyData) : (kitB (tyOf d) "str").isSome = true := by cases d <;> simp only [tyOf] <;> decide +kernel
@[simp] theorem kit_list (d : PyData) : (kitB (tyOf d) "list").isSome = true := by cases d <;> simp only [tyOf] <;> decide +kernel
/-! bits of ints that are not negative -/
@[simp] theorem bitAnd_nat (a b : Nat) : Builtin.bitAnd (a : Int) (b : Int) = ((a &&& b : Nat) : Int) := by
  simp [Builtin.bitAnd]
theorem bitNot_nat (a : Nat) : Builtin.bitNot (a : Int) = -(a : Int) - 1 := rfl
theorem and_le (a b : Nat) : a &&& b ≤ a := Nat.and_le_left
/-- a less what is in b -/
def without (a b : Nat) : Nat := a - (a &&& b)
@[simp] theorem bitAnd_not (a b : Nat) : Builtin.bitAnd (a : Int) (Builtin.bitNot (b : Int)) = ((without a b : Nat) : Int) := by
  have h1 : ¬ (0 ≤ Builtin.bitNot (b : Int)) := by unfold Builtin.bitNot; omega
  rw [bitAnd_pn (by omega) h1, bitNot_bitNot]
  have := and_le a b
  simp [without]
  omega
theorem without_half (a b : Nat) : without a b / 2 = without (a / 2) (b / 2) ∧ (without a b).testBit 0 = (a.testBit 0 && !b.testBit 0) := by
  have h1 : (a &&& b) / 2 = (a / 2) &&& (b / 2) := Nat.and_div_two
  have h2 : (a &&& b).testBit 0 = (a.testBit 0 && b.testBit 0) := Nat.testBit_and ..
  have h3 := and_le a b
  have h4 := and_le (a / 2) (b / 2)
  have ea : a.testBit 0 = decide (a % 2 = 1) := Nat.testBit_zero a
  have eb : b.testBit 0 = decide (b % 2 = 1) := Nat.testBit_zero b
  have ew : (a &&& b).testBit 0 = decide ((a &&& b) % 2 = 1) := Nat.testBit_zero _
  have ed : (a - (a &&& b)).testBit 0 = decide ((a - (a &&& b)) % 2 = 1) := Nat.testBit_zero _
  rw [ew, ea, eb] at h2
  unfold without
  rw [ed, ea, eb, ← h1]
  have hm : (a &&& b) % 2 ≤ a % 2 := by
    by_cases x : a % 2 = 1
    · omega
    · have : ¬ ((a &&& b) % 2 = 1) := by simpa [x] using h2
      omega
  refine ⟨by omega, ?_⟩
  by_cases x : a % 2 = 1 <;> by_cases y : b % 2 = 1
  · have : (a &&& b) % 2 = 1 := by simpa [x, y] using h2
    have : ¬ ((a - (a &&& b)) % 2 = 1) := by omega
    simp [x, y, this]
  · have : ¬ ((a &&& b) % 2 = 1) := by simpa [x, y] using h2
    have : (a - (a &&& b)) % 2 = 1 := by omega
    simp [x, y, this]
  · have : ¬ ((a - (a &&& b)) % 2 = 1) := by omega
    simp [x, this]
  · have : ¬ ((a - (a &&& b)) % 2 = 1) := by omega
    simp [x, this]
theorem testBit_without (i : Nat) : ∀ a b : Nat, (without a b).testBit i = (a.testBit i && !b.testBit i) := by
  induction i with
  | zero => intro a b; exact (without_half a b).2
  | succ i ih =>
    intro a b
    rw [Nat.testBit_succ, Nat.testBit_succ, Nat.testBit_succ, (without_half a b).1]
    exact ih _ _
@[simp] theorem bitOr_nat (a b : Nat) : Builtin.bitOr (a : Int) (b : Int) = ((a ||| b : Nat) : Int) := by
  have h1 : ¬ (0 ≤ Builtin.bitNot (a : Int)) := by unfold Builtin.bitNot; omega
  have h2 : ¬ (0 ≤ Builtin.bitNot (b : Int)) := by unfold Builtin.bitNot; omega
  unfold Builtin.bitOr
  rw [bitAnd_nn h1 h2, bitNot_bitNot, bitNot_bitNot, bitNot_bitNot]
  simp
end DC

set_option Elab.async false
set_option linter.all false
set_option maxRecDepth 100000
set_option maxHeartbeats 1000000
namespace DC
open PySem PySem.Spec PyProof.Rows L2
/-- one turn of a comprehension that leaves all else: it gives o -/
def Turn1 (wg : WG) (wt : WT) (we : WE) (vs : List Nat) (ρ : List Sl) (d : PyData) (o : Option PyData) : Prop := ∀ N : Option PyData → List Sl → Prop, N o ρ → wg d (wipeS ρ vs) fun ρ2 => wt ρ2 fun b ρ3 =>
  if b = true then we ρ3 fun x ρ4 => match x.dat with
    | some e => N (some e) (backS ρ ρ4 vs)
    | none => False
  else N none (backS ρ ρ3 vs)
theorem wt_mono_ok {wg : WG} {wt : WT} {we : WE} {vs : List Nat} {ρ : List Sl} {d : PyData} {o : Option PyData} {Q : Rs → List Sl → Prop} {r acc : List PyData} (h : Turn1 wg wt we vs ρ d o) (q : lcD wg wt we vs Q r (acc ++ o.toList) ρ) : lcD wg wt we vs Q (d :: r) acc ρ := by
  have := h (fun o' ρ' => lcD wg wt we vs Q r (acc ++ o'.toList) ρ') q
  simp only [Option.toList, List.append_nil] at this
  exact this
theorem lcD_turns {wg : WG} {wt : WT} {we : WE} {vs : List Nat} {ρ : List Sl} {Q : Rs → List Sl → Prop} (f : PyData → Option PyData) : ∀ {ds acc : List PyData}, (∀ d ∈ ds, Turn1 wg wt we vs ρ d (f d)) → Q (.nl (acc ++ ds.filterMap f)) ρ → lcD wg wt we vs Q ds acc ρ
  | [], acc, _, q => by
    simp at q
    exact q
  | d :: r, acc, h, q => by
    refine wt_mono_ok (h d List.mem_cons_self) (lcD_turns f (fun e he => h e (List.mem_cons_of_mem _ he)) ?_)
    rw [List.append_assoc]
    cases e : f d with
    | none => simpa [List.filterMap_cons, e] using q
    | some y => simpa [List.filterMap_cons, e] using q
/-- the items given as a list's images -/
theorem lcD_map {α : Type} {wg : WG} {wt : WT} {we : WE} {vs : List Nat} {ρ : List Sl} {Q : Rs → List Sl → Prop} (enc : α → PyData) (f : α → Option PyData) {xs : List α} {acc : List PyData} (h : ∀ a ∈ xs, Turn1 wg wt we vs ρ (enc a) (f a)) (q : Q (.nl (acc ++ xs.filterMap f)) ρ) : lcD wg wt we vs Q (xs.map enc) acc ρ := by
  induction xs generalizing acc with
  | nil => simpa using q
  | cons a r ih =>
    refine wt_mono_ok (h a List.mem_cons_self) (ih (fun e he => h e (List.mem_cons_of_mem _ he)) ?_)
    rw [List.append_assoc]
    cases e : f a with
    | none => simpa [List.filterMap_cons, e] using q
    | some y => simpa [List.filterMap_cons, e] using q
/-- by an invariant of the turn -/
theorem lcD_inv {wg : WG} {wt : WT} {we : WE} {vs : List Nat} {Q : Rs → List Sl → Prop} {ds : List PyData} {ρ : List Sl} (I : Nat → List PyData → List Sl → Prop) (h0 : I 0 [] ρ)
    (hs : ∀ i d acc ρ, ds[i]? = some d → I i acc ρ → ∀ N : Option PyData → List Sl → Prop, (∀ o ρ', I (i + 1) (acc ++ o.toList) ρ' → N o ρ') → wg d (wipeS ρ vs) fun ρ2 => wt ρ2 fun b ρ3 =>
      if b = true then we ρ3 fun x ρ4 => match x.dat with
        | some e => N (some e) (backS ρ ρ4 vs)
        | none => False
      else N none (backS ρ ρ3 vs))
    (hd : ∀ acc ρ, I ds.length acc ρ → Q (.nl acc) ρ) : lcD wg wt we vs Q ds [] ρ := by
  have key : ∀ (es : List PyData) (i : Nat) (acc : List PyData) (ρ : List Sl), ds.drop i = es → i ≤ ds.length → I i acc ρ → lcD wg wt we vs Q es acc ρ := by
    intro es
    induction es with
    | nil =>
      intro i acc ρ e hi h
      have : i = ds.length := by
        have := congrArg List.length e
        rw [List.length_drop] at this
        simp at this
        omega
      subst this
      exact hd acc ρ h
    | cons d r ih =>
      intro i acc ρ e hi h
      have hl : i < ds.length := by
        have := congrArg List.length e
        rw [List.length_drop] at this
        simp at this
        omega
      rw [List.drop_eq_getElem_cons hl] at e
      have e1 := (List.cons.inj e).1
      have e2 := (List.cons.inj e).2
      have := hs i d acc ρ (by rw [List.getElem?_eq_getElem hl, e1]) h (fun o' ρ' => lcD wg wt we vs Q r (acc ++ o'.toList) ρ') fun o ρ' h' => ih (i + 1) _ ρ' e2 hl h'
      simp only [Option.toList, List.append_nil] at this
      exact this
  exact key ds 0 [] ρ rfl (Nat.zero_le _) h0
end DC

set_option Elab.async false
set_option linter.all false
set_option maxRecDepth 100000
set_option maxHeartbeats 1000000
namespace DC
open PySem PySem.Spec PyProof.Rows L2
@[simp] theorem atI_0 {α : Type} (a : α) (l : List α) : atI (a :: l) 0 = some a := by
  simp [atI, ixN]
@[simp] theorem atI_1 {α : Type} (a b : α) (l : List α) : atI (a :: b :: l) 1 = some b := by
  have : (1 : Int) < (l.length : Int) + 1 + 1 := by omega
  simp [atI, ixN, this]
@[simp] theorem atI_2 {α : Type} (a b c : α) (l : List α) : atI (a :: b :: c :: l) 2 = some c := by
  have : (2 : Int) < (l.length : Int) + 1 + 1 + 1 := by omega
  simp [atI, ixN, this]
@[simp] theorem ixN_3_0 : ixN 3 0 = some 0 := by decide
@[simp] theorem ixN_3_1 : ixN 3 1 = some 1 := by decide
@[simp] theorem ixN_3_2 : ixN 3 2 = some 2 := by decide
theorem atI_n {α : Type} (l : List α) (k : Nat) : atI l (k : Int) = l[k]? := by
  unfold atI ixN
  by_cases h : k < l.length
  · have : (k : Int) < (l.length : Int) := by omega
    simp [this]
  · have : ¬ (k : Int) < (l.length : Int) := by omega
    simp [this]
    omega
theorem atI_nil0 {α : Type} : atI ([] : List α) 0 = none := by simp [atI, ixN]
theorem atI_zero {α : Type} (l : List α) : atI l 0 = l[0]? := atI_n l 0
@[simp] theorem cutP_tail {α : Type} (l : List α) : cutP l (some 1) none = l.tail := by
  unfold cutP
  cases l with
  | nil => simp
  | cons a r =>
    have e : HT.sIx (a :: r).length 0 (some 1) = 1 := by
      simp [HT.sIx]
      try omega
    have e2 : HT.sIx (a :: r).length (a :: r).length none = (a :: r).length := by simp [HT.sIx]
    rw [e, e2]
    simp
@[simp] theorem cutP_take1 {α : Type} (l : List α) : cutP l none (some 1) = l.take 1 := by
  unfold cutP
  cases l with
  | nil => simp
  | cons a r =>
    have e : HT.sIx (a :: r).length (a :: r).length (some 1) = 1 := by
      simp [HT.sIx]
      try omega
    have e2 : HT.sIx (a :: r).length 0 none = 0 := by simp [HT.sIx]
    rw [e, e2]
    simp
theorem cutP_drop {α : Type} (l : List α) (k : Nat) (h : k ≤ l.length) : cutP l (some (k : Int)) none = l.drop k := by
  unfold cutP
  have e : HT.sIx l.length 0 (some (k : Int)) = k := by
    rw [HT.sIx_nat]
    omega
  have e2 : HT.sIx l.length l.length none = l.length := by simp [HT.sIx]
  rw [e, e2]
  rw [List.take_of_length_le]
  simp
end DC

set_option Elab.async false
set_option linter.all false
set_option maxRecDepth 100000
set_option maxHeartbeats 1000000
/-! name.extend(any list or tuple) -/
namespace DC
open PySem PySem.Spec PyProof.Rows L2
theorem meets_extL (l b : Addr) (xs zs : Array Value) (n m : Nat) (dc : Option Addr) (sl : Array (Option Value)) (h0 : ¬(!xs.isEmpty && Builtin.List.listTooLong (xs.size + zs.size)) = true) (h1 : xs.size ≤ sizeLine) (h2 : xs.size + zs.size ≤ sizeLine + 1) :
    Meets (Builtin.«list.extend» ⟨[.ref l, .ref b], []⟩) (fun _ R s => s.heap.get? l = some { cls := .type "list", dict := none, data := .seq xs n, slots := #[] } ∧ s.heap.get? b = some { cls := .type "list", dict := dc, data := .seq zs m, slots := sl } ∧
      R (.ok (.ret Value.none)) { s with heap := s.heap.update l (Obj.mapSeq fun x => x ++ zs), toks := s.toks }) :=
  .of_wp fun prog w A R s h => by
    obtain ⟨hp, g, d, tk, os⟩ := s
    obtain ⟨hl, hb, h⟩ := h
    have e1 := AutoSeq1.idx_int
    have e2 := AutoSeq1.sub_tuple_tuple
    have e3 := AutoSeq1.sub_list_list
    have e4 := AutoSeq1.sub_tuple_list
    have e5 := AutoSeq1.sub_list_tuple
    have hz : (xs ++ zs).size ≤ sizeLine + 1 := by rw [Array.size_append]; exact h2
    wp_walk using (wpAny_updateSeq hl rfl (hz := h1) (_hz' := hz)), AutoSeq1.wpAny_loadPart' hl, AutoSeq1.wpAny_loadPart' hb
    exact ⟨_, rfl, h⟩
theorem meets_extT (l b : Addr) (xs zs : Array Value) (n m : Nat) (dc : Option Addr) (sl : Array (Option Value)) (h0 : ¬(!xs.isEmpty && Builtin.List.listTooLong (xs.size + zs.size)) = true) (h1 : xs.size ≤ sizeLine) (h2 : xs.size + zs.size ≤ sizeLine + 1) :
    Meets (Builtin.«list.extend» ⟨[.ref l, .ref b], []⟩) (fun _ R s => s.heap.get? l = some { cls := .type "list", dict := none, data := .seq xs n, slots := #[] } ∧ s.heap.get? b = some { cls := .type "tuple", dict := dc, data := .seq zs m, slots := sl } ∧
      R (.ok (.ret Value.none)) { s with heap := s.heap.update l (Obj.mapSeq fun x => x ++ zs), toks := s.toks }) :=
  .of_wp fun prog w A R s h => by
    obtain ⟨hp, g, d, tk, os⟩ := s
    obtain ⟨hl, hb, h⟩ := h
    have e1 := AutoSeq1.idx_int
    have e2 := AutoSeq1.sub_tuple_tuple
    have e3 := AutoSeq1.sub_list_list
    have e4 := AutoSeq1.sub_tuple_list
    have e5 := AutoSeq1.sub_list_tuple
    have hz : (xs ++ zs).size ≤ sizeLine + 1 := by rw [Array.size_append]; exact h2
    wp_walk using (wpAny_updateSeq hl rfl (hz := h1) (_hz' := hz)), AutoSeq1.wpAny_loadPart' hl, AutoSeq1.wpAny_loadPart' hb
    exact ⟨_, rfl, h⟩
def rExtA (K : PySem.W.Frag) : V → List V → Hp → VK → Prop := fun x vs H Q => ∃ l b xs zs, x = .ref l ∧ vs = [.ref b] ∧ H l = some (.lst xs) ∧ (SqL K H b zs ∨ SqT K H b zs) ∧ xs.length + zs.length ≤ sizeLine ∧ Q .non (upd H l (.lst (xs ++ zs)))
theorem mt_extA {X : Cx} : MtM X "list.extend" (rExtA X.K) := by
  intro pins s σ H x vs v us Q I rx rv h
  obtain ⟨l, b, xs, zs, rfl, rfl, hH, hB, hz, q⟩ := h
  cases rx
  obtain ⟨u, rfl, ru⟩ := rv.one
  cases ru
  obtain ⟨z, its, n, r, hl, e⟩ := I.lstM hH
  have fin : ∀ (its2 : List Value), Vals zs its2 → its.toArray.size + its2.toArray.size ≤ sizeLine ∧ ¬ (!its.toArray.isEmpty && Builtin.List.listTooLong (its.toArray.size + its2.toArray.size)) = true := fun its2 r2 => by
    have h1 := r.length
    have h2 := r2.length
    have hsz : its.toArray.size + its2.toArray.size ≤ sizeLine := by rw [List.size_toArray, List.size_toArray]; omega
    refine ⟨hsz, ?_⟩
    rw [notLongL hsz, Bool.and_false]
    exact Bool.false_ne_true
  rcases hB with hB | hB
  · obtain ⟨its2, r2, ⟨o2, n2, e2, c2, d2, w2⟩, _⟩ := I.list hB
    obtain ⟨cl2, dd2, da2, sl2⟩ := o2
    cases c2; cases w2
    obtain ⟨hsz, hlong⟩ := fin its2 r2
    refine call_meets F.slot_list_extend ⟨_, e, rfl⟩ F.entry_list_extend (F.args_list_extend_2 _ _) (meets_extL l b its.toArray its2.toArray n n2 dd2 sl2 hlong (by omega) (by omega)) ⟨e, e2, ?_⟩
    refine ⟨.non, _, I.lset (its' := its ++ its2) hH e (by simp) (r.append r2) ?_, rfl, q⟩
    rw [List.length_append]
    have := r.length
    have := r2.length
    omega
  · obtain ⟨its2, r2, ⟨o2, e2, c2, n2, w2⟩, _⟩ := I.tuple hB
    obtain ⟨cl2, dd2, da2, sl2⟩ := o2
    cases c2; cases w2
    obtain ⟨hsz, hlong⟩ := fin its2 r2
    refine call_meets F.slot_list_extend ⟨_, e, rfl⟩ F.entry_list_extend (F.args_list_extend_2 _ _) (meets_extT l b its.toArray its2.toArray n n2 dd2 sl2 hlong (by omega) (by omega)) ⟨e, e2, ?_⟩
    refine ⟨.non, _, I.lset (its' := its ++ its2) hH e (by simp) (r.append r2) ?_, rfl, q⟩
    rw [List.length_append]
    have := r.length
    have := r2.length
    omega
@[simp] def seqOf : PyData → Option (List PyData)
  | .list es => some es
  | .tuple es => some es
  | _ => none
@[simp] def wExtA (i : Nat) (we : WE) : WE := fun ρ Q => (rdL ρ[i]?).isSome = true ∧ we ρ fun r ρ1 => match r.dat.bind seqOf, owL ρ1[i]? with
  | some es, some ds => ds.length + es.length ≤ 10000000 ∧ Q (.fz .none) (setOw ρ1 i (ds ++ es))
  | _, _ => False
theorem dp_seqI {K : PySem.W.Frag} {G : Hp} {v : V} {d : PyData} {es : List PyData} (h : Dp K G v d) (e : seqOf d = some es) : ∃ a xs, v = .ref a ∧ (SqL K G a xs ∨ SqT K G a xs) ∧ DpAll K G xs es := by
  cases d with
  | list ds =>
    cases e
    obtain ⟨a, xs, h1, h2, h3⟩ := dp_listI h
    exact ⟨a, xs, h1, .inl h2, h3⟩
  | tuple ds =>
    cases e
    obtain ⟨a, xs, h1, h2, h3⟩ := dp_tupI h
    exact ⟨a, xs, h1, .inr h2, h3⟩
  | _ => cases e
theorem de_extA (i : Nat) {X : Cx} {x : Str} {pos p2 p3 : Pos} {e : Expr} {te : TE} {we : WE} (he : DE X e te we) (hN : X.N[i]? = some x := by rfl) (hv : Vis X.env.scope x := by first | exact Or.inl rfl | exact Or.inr (Or.inl rfl) | exact Or.inr (Or.inr rfl)) (hd : (x == ("__debug__" : Str)) = false := by decide)
    (hcd : (x == ("__classdict__" : Str)) = false := by decide) (hbase : attributeBase (.Name x p2) "extend" X.env (eval (.Name x p2) X.env) = eval (.Name x p2) X.env := by rfl)
    (hfew : ((backTo pos (starEach (e :: []) X.env)).all (fun x => !x.1) && (backToKw pos (keywordEach [] X.env)).all (fun x => x.1.isSome)
      && decide ((e :: []).length + ([] : List Keyword).length + (if ([] : List Keyword).isEmpty then 0 else 1) < 30)) = true := by rfl)
    (hline : (p3.endLine == pos.line) = true := by rfl) (hs : starEach (e :: []) X.env = (false, eval e X.env) :: starEach [] X.env := by rfl) : DE X (.Call (.Attribute (.Name x p2) "extend" p3) [e] [] pos) (tBM X.K "list" (rExtA X.K) (tVar i) (tCons te tNil)) (wExtA i we) := by
  refine ⟨pe_bm PySem.F.plainAttrs_list PySem.F.slot_list_extend PySem.F.type_list_extend mt_extA (pe_var hN hv hd hcd) (pa_cons he.pe pa_nil hs) hbase hfew hline hs rfl, fun ρ Q ⟨h0, h⟩ O L σ H I QV q => ?_⟩
  cases e0 : rdL ρ[i]? with
  | none => rw [e0] at h0; cases h0
  | some ds0 =>
    obtain ⟨a0, vs0, w1, w2, _⟩ := I.rdL e0
    refine ⟨_, w1, .inl ⟨rfl, _, w2⟩, he.ev ρ _ h O L σ H I _ fun L1 y H1 r1 ρ1 g1 R1 h1 => ?_⟩
    cases e3 : r1.dat with
    | none => simp only [e3, Option.bind] at h1
    | some d =>
      cases e4 : seqOf d with
      | none => simp only [e3, Option.bind, e4] at h1
      | some es =>
        cases e2 : owL ρ1[i]? with
        | none => simp only [e3, Option.bind, e4, e2] at h1
        | some ds =>
          simp only [e3, Option.bind, e4, e2] at h1
          obtain ⟨p, us, rfl, hp, hus⟩ := dp_seqI (R1.dp e3) e4
          obtain ⟨a, vs, k1, k2, k3, k4, k5⟩ := R1.en.owL e2
          rw [w1] at k1
          cases k1
          have hp' : SqL X.K H1 p us ∨ SqT X.K H1 p us := hp.imp (sql_mono less_sub) (sqt_mono less_sub)
          refine ⟨_, p, vs, us, rfl, rfl, k3, hp', le_line' (by rw [k4.len, hus.len]; exact h1.1), ?_⟩
          exact q L1 _ _ _ _ (g1.trans (Go.mut k2)) (.f (k5 _ _ (k4.app hus)) .non) h1.2
end DC

set_option Elab.async false
set_option linter.all false
set_option maxRecDepth 100000
set_option maxHeartbeats 1000000
/-! comprehensions of two for -/
namespace DC
open PySem PySem.Spec PyProof.Rows L2
theorem wipe_all {τ : L2.St} {j : Nat} : ∀ us : List Nat, j ∈ us → (wipe τ us)[j]? = if j < τ.length then some none else none
  | [], z => nomatch z
  | u :: us, hu => by
    show ((wipe τ us).set u none)[j]? = _
    by_cases huj : u = j
    · subst huj
      by_cases hl : u < τ.length
      · rw [List.getElem?_set_self (by rw [wipe_length]; exact hl), if_pos hl]
      · rw [List.getElem?_eq_none (by rw [List.length_set, wipe_length]; omega), if_neg hl]
    · rw [List.getElem?_set_ne huj]
      exact wipe_all us ((List.mem_cons.mp hu).resolve_left fun e => huj e.symm)
theorem wipe_same {σ σ2 : L2.St} {vs sl : List Nat} (hsl : ∀ j ∈ sl, j ∈ vs) (e : ∀ j, j ∉ sl → σ2[j]? = (wipe σ vs)[j]?) (l : σ2.length = (wipe σ vs).length) : wipe σ2 vs = wipe σ vs := by
  apply List.ext_getElem?
  intro j
  by_cases hj : j ∈ vs
  · rw [wipe_all vs hj, wipe_all vs hj, l, wipe_length]
  · rw [wipe_out hj, wipe_out hj, e j fun z => hj (hsl j z), wipe_out hj]
@[simp] def lcIn (wg : WG) (wt : WT) (we : WE) (vs : List Nat) (N : List PyData → List Sl → Prop) : List PyData → List PyData → List Sl → Prop
  | [], acc, ρ => N acc ρ
  | d :: r, acc, ρ => wg d (wipeS ρ vs) fun ρ2 => wt ρ2 fun b ρ3 =>
    if b = true then we ρ3 fun x ρ4 => match x.dat with
      | some e => lcIn wg wt we vs N r (acc ++ [e]) (backS ρ ρ4 vs)
      | none => False
    else lcIn wg wt we vs N r acc (backS ρ ρ3 vs)
@[simp] def lcOut (wg : WG) (wt : WT) (wI1 : WI) (wg1 : WG) (wt1 : WT) (we : WE) (vs vs1 : List Nat) (Q : Rs → List Sl → Prop) : List PyData → List PyData → List Sl → Prop
  | [], acc, ρ => Q (.nl acc) ρ
  | d :: r, acc, ρ => wg d (wipeS ρ vs) fun ρ2 => wt ρ2 fun b ρ3 =>
    if b = true then wI1 ρ3 fun es ρ4 => es.length ≤ 1000 ∧ lcIn wg1 wt1 we vs1 (fun acc2 ρ5 => lcOut wg wt wI1 wg1 wt1 we vs vs1 Q r acc2 (backS ρ ρ5 vs)) es acc ρ4
    else lcOut wg wt wI1 wg1 wt1 we vs vs1 Q r acc (backS ρ ρ3 vs)
@[simp] def wLc2 (wi : WI) (wg : WG) (wt : WT) (wI1 : WI) (wg1 : WG) (wt1 : WT) (we : WE) (vs vs1 : List Nat) : WE := fun ρ Q => wi ρ fun ds ρ1 => ds.length ≤ 1000 ∧ lcOut wg wt wI1 wg1 wt1 we vs vs1 Q ds [] ρ1
/-- a target's reading -/
def EvG (K : PySem.W.Frag) (g : TG) (sl : List Nat) (wg : WG) : Prop := ∀ d ρ Q, wg d ρ Q → ∀ (O L : List Addr) (σ : L2.St) (H : Hp) (v : V), En K O L H σ ρ → Dp K (less H (O ++ L)) v d → ∀ QV : L2.St → Hp → Prop,
  (∀ σ' ρ', En K O L H σ' ρ' → (∀ j, j ∉ sl → σ'[j]? = σ[j]?) → σ'.length = σ.length → Q ρ' → QV σ' H) → g v σ H QV
theorem go_fresh {K : PySem.W.Frag} {O L1 L' : List Addr} {H1 H' : Hp} {D : Addr} (hD : H1 D = none) (g2 : Go L1 H1 L' H') : Same (less H1 (O ++ L1)) (less H' (D :: O ++ L')) := fun b o hb => by
  obtain ⟨b1, b2⟩ := less_some hb
  rw [List.mem_append] at b1
  have b3 : b ∉ L1 := fun z => b1 (.inr z)
  rw [less_out]
  · exact g2.keep b o b2 b3
  · intro z
    rcases List.mem_append.mp z with z | z
    · rcases List.mem_cons.mp z with z | z
      · rw [z, hD] at b2; cases b2
      · exact b1 (.inl z)
    · rcases g2.gr b z with z | z
      · exact b3 z
      · rw [b2] at z; cases z
theorem go_upd {L1 L' : List Addr} {H1 H' : Hp} {D : Addr} {o : HO} (hD : H1 D = none) (g : Go L1 H1 L' H') : Go L1 H1 L' (upd H' D o) := ⟨fun b u hb hn => by
    rw [upd_ne (ne_of_none hb hD)]; exact g.keep b u hb hn, g.gr, fun b hb => by
    by_cases e : b = D
    · rw [e, upd_same]; simp
    · rw [upd_ne e]; exact g.st b hb⟩
theorem En.backG {K : PySem.W.Frag} {O L L' : List Addr} {H H' : Hp} {σ σ' : L2.St} {ρ ρ' : List Sl} {vs : List Nat} (I : En K O L H σ ρ) (g : Same (less H (O ++ L)) (less H' (O ++ L'))) (J : En K O L' H' σ' ρ') (e : ∀ j, j ∉ vs → σ'[j]? = σ[j]?) (hl : σ'.length = σ.length) : En K O L' H' σ (backS ρ ρ' vs) := by
  refine ⟨by rw [backS_len, ← hl]; exact J.len, fun i s h => ?_, fun i j s t a h1 h2 o1 o2 e1 e2 => ?_, J.tr, J.dis⟩
  · rcases backS_get h with ⟨_, rfl⟩ | ⟨h1, h2⟩
    · cases q : ρ[i]? with
      | none => exact trivial
      | some s =>
        have a := I.at_ i s q
        cases s with
        | fz d => obtain ⟨v, a1, a2⟩ := a; exact ⟨v, a1, a2.up g⟩
        | ob C fs => obtain ⟨v, a1, a2⟩ := a; exact ⟨v, a1, a2.up g⟩
        | _ => exact trivial
    · rw [← e i h1]; exact J.at_ i s h2
  · have nk : ∀ o : Option Sl, ¬ Owned (keepS o) := fun o => by
      cases o with
      | none => exact fun z => z
      | some s => cases s <;> exact fun z => z
    rcases backS_get h1 with ⟨_, rfl⟩ | ⟨k1, k2⟩
    · exact (nk _ o1).elim
    · rcases backS_get h2 with ⟨_, rfl⟩ | ⟨k3, k4⟩
      · exact (nk _ o2).elim
      · rw [← e i k1] at e1
        rw [← e j k3] at e2
        exact J.inj i j s t a k2 k4 o1 o2 e1 e2
theorem ev_lc2 {K : PySem.W.Frag} {wi wi1 : TI} {g g1 : TG} {tt tt1 : TT} {te : TE} {vs vs1 sl sl1 : List Nat} {wI wI1 : WI} {wg wg1 : WG} {wt wt1 : WT} {we : WE} (hi : ∀ ρ Q, wI ρ Q → EvI K wi ρ Q)
    (hg : EvG K g sl wg) (hsl : ∀ j ∈ sl, j ∈ vs) (ht : ∀ ρ Q, wt ρ Q → EvT K tt ρ Q) (hi1 : ∀ ρ Q, wI1 ρ Q → EvI K wi1 ρ Q) (hg1 : EvG K g1 sl1 wg1) (hsl1 : ∀ j ∈ sl1, j ∈ vs1) (ht1 : ∀ ρ Q, wt1 ρ Q → EvT K tt1 ρ Q)
    (he : ∀ ρ Q, we ρ Q → Ev K te ρ Q) (ρ : List Sl) (Q : Rs → List Sl → Prop) (h : wLc2 wI wg wt wI1 wg1 wt1 we vs vs1 ρ Q) : Ev K (tLc2 wi g tt wi1 g1 tt1 te vs vs1) ρ Q := by
  intro O L σ H I QV q
  refine hi ρ _ h O L σ H I _ fun L1 J H1 ds ρ1 g1' I1 it ⟨hz, h1⟩ => ?_
  intro D hD
  have s1 : Same H1 (upd H1 D (.lst [])) := new_same hD
  have I2 : En K (D :: O) L1 (upd H1 D (.lst [])) σ ρ1 := I1.push s1 hD (by rw [upd_same]; simp)
  have D_O : D ∉ O := fun z => I1.tr D (List.mem_append_left _ z) hD
  refine ⟨fun i m H' => ∃ L' ρ' acc accV, Go L1 H1 L' H' ∧ En K (D :: O) L' H' σ ρ' ∧ H' D = some (.lst accV) ∧ DpAll K (less H' (D :: (O ++ L'))) accV acc ∧ i ≤ ds.length ∧ acc.length ≤ 1000 * i ∧ lcOut wg wt wI1 wg1 wt1 we vs vs1 Q (ds.drop i) acc ρ' ∧ m = ds.length - i,
    ⟨ds.length, L1, ρ1, [], [], Go.same s1, I2, upd_same, .nil, Nat.zero_le _, Nat.zero_le _, h1, rfl⟩, ?_⟩
  rintro i m H' ⟨L', ρ', acc, accV, g2, I', hD', hA, hi', hacc, hlc, rfl⟩
  have gG : Same (less H1 (O ++ L1)) (less H' (D :: O ++ L')) := go_fresh (K := K) hD g2
  have gH : Same (less H1 (O ++ L1)) H' := fun b o hb => (less_some (gG b o hb)).2
  by_cases hlt : i < ds.length
  · obtain ⟨d, hd⟩ : ∃ d, ds[i]? = some d := ⟨ds[i], by simp [hlt]⟩
    obtain ⟨go, yld⟩ := (it H' gH i).1 d hd
    have hdr : ds.drop i = d :: ds.drop (i + 1) := by
      rw [List.drop_eq_getElem_cons hlt]
      rw [List.getElem?_eq_getElem hlt] at hd
      cases hd
      rfl
    rw [hdr] at hlc
    refine .inr ⟨go, fun H'' => ∃ L'' ρ'' acc' accV', Go L1 H1 L'' H'' ∧ En K (D :: O) L'' H'' σ ρ'' ∧ H'' D = some (.lst accV') ∧ DpAll K (less H'' (D :: (O ++ L''))) accV' acc' ∧ acc'.length ≤ 1000 * (i + 1) ∧ lcOut wg wt wI1 wg1 wt1 we vs vs1 Q (ds.drop (i + 1)) acc' ρ'', ?_, ?_⟩
    · rintro H'' ⟨L'', ρ'', acc', accV', k1, k2, k3, k4, k5, k6⟩
      exact ⟨ds.length - (i + 1), by omega, L'', ρ'', acc', accV', k1, k2, k3, k4, hlt, k5, k6, rfl⟩
    · intro x H2 y
      have yk := yld x H2 y
      have sy := yk.same
      have Iy := (I'.grow sy).wipe vs
      have dx : Dp K (less H2 (D :: O ++ L')) x d := yk.dp I'.tr gG
      have hD2 : H2 D = some (.lst accV) := sy _ _ hD'
      unfold lcOut at hlc
      refine hg d _ _ hlc (D :: O) L' (wipe σ vs) H2 x Iy dx _ fun σ2 ρ2 J2 e2 l2 q2 => ?_
      refine ⟨wipe_same hsl e2 l2, ht _ _ q2 (D :: O) L' σ2 H2 J2 _ fun L3 b H3 ρ3 g3 J3 q3 => ?_⟩
      have e2' : ∀ j, j ∉ vs → σ2[j]? = σ[j]? := fun j hj => by rw [e2 j fun z => hj (hsl j z), wipe_out hj]
      have l2' : σ2.length = σ.length := l2.trans (wipe_length σ vs)
      have gy : Go L' H' L' H2 := Go.same sy
      have D_L : D ∉ L' := fun z => I'.dis D z List.mem_cons_self
      have hA2 : DpAll K (less H2 (D :: (O ++ L'))) accV acc := hA.up (less_mono sy)
      have hD3 : H3 D = some (.lst accV) := g3.keep D _ hD2 D_L
      have hA3 : DpAll K (less H3 (D :: (O ++ L3))) accV acc := hA2.up (Go.less (O := D :: O) g3)
      have g13 : Go L1 H1 L3 H3 := (g2.trans gy).trans g3
      cases b with
      | false =>
        rw [if_neg Bool.false_ne_true] at q3 ⊢
        exact ⟨L3, _, acc, accV, g13, En.back (I'.grow sy) g3 J3 e2' l2', hD3, hA3, by omega, q3⟩
      | true =>
        rw [if_pos rfl] at q3 ⊢
        refine hi1 _ _ q3 (D :: O) L3 σ2 H3 J3 _ fun L4 J1 H4 es ρ4 g4 J4 it1 ⟨hz1, h4⟩ => ?_
        have g34 : Go L' H2 L4 H4 := g3.trans g4
        have hD4 : H4 D = some (.lst accV) := g34.keep D _ hD2 D_L
        have D_L3 : D ∉ L3 := fun z => J3.dis D z List.mem_cons_self
        have hA4 : DpAll K (less H4 (D :: (O ++ L4))) accV acc := hA3.up (Go.less (O := D :: O) g4)
        -- the inner loop
        refine ⟨fun j k H5 => ∃ L5 ρ5 acc5 accV5, Same (less H2 (D :: O ++ L')) (less H5 (D :: O ++ L5)) ∧ Go L1 H1 L5 H5 ∧ Same (less H4 (D :: O ++ L4)) H5 ∧ Same (less H4 (D :: O ++ L4)) (less H5 (D :: O ++ L5)) ∧ En K (D :: O) L5 H5 σ2 ρ5 ∧ H5 D = some (.lst accV5) ∧ DpAll K (less H5 (D :: (O ++ L5))) accV5 acc5 ∧ j ≤ es.length ∧ acc5.length ≤ 1000 * i + j ∧
          lcIn wg1 wt1 we vs1 (fun acc2 ρ5 => lcOut wg wt wI1 wg1 wt1 we vs vs1 Q (ds.drop (i + 1)) acc2 (backS ρ' ρ5 vs)) (es.drop j) acc5 ρ5 ∧ k = es.length - j, ?_, ?_⟩
        · exact ⟨es.length, L4, ρ4, acc, accV, Go.less (O := D :: O) g34, g13.trans g4, less_sub, fun _ _ z => z, J4, hD4, hA4, Nat.zero_le _, by omega, h4, rfl⟩
        · rintro j k H5 ⟨L5, ρ5, acc5, accV5, k1, k2, k3, k3', I5, hD5, hA5, hj, hacc5, hlc5, rfl⟩
          by_cases hjl : j < es.length
          · obtain ⟨e, he'⟩ : ∃ e, es[j]? = some e := ⟨es[j], by simp [hjl]⟩
            obtain ⟨go1, yld1⟩ := (it1 H5 k3 j).1 e he'
            have edr : es.drop j = e :: es.drop (j + 1) := by
              rw [List.drop_eq_getElem_cons hjl]
              rw [List.getElem?_eq_getElem hjl] at he'
              cases he'
              rfl
            rw [edr] at hlc5
            refine .inr ⟨go1, fun H6 => ∃ L6 ρ6 acc6 accV6, Same (less H2 (D :: O ++ L')) (less H6 (D :: O ++ L6)) ∧ Go L1 H1 L6 H6 ∧ Same (less H4 (D :: O ++ L4)) H6 ∧ Same (less H4 (D :: O ++ L4)) (less H6 (D :: O ++ L6)) ∧ En K (D :: O) L6 H6 σ2 ρ6 ∧ H6 D = some (.lst accV6) ∧ DpAll K (less H6 (D :: (O ++ L6))) accV6 acc6 ∧ acc6.length ≤ 1000 * i + (j + 1) ∧
              lcIn wg1 wt1 we vs1 (fun acc2 ρ5 => lcOut wg wt wI1 wg1 wt1 we vs vs1 Q (ds.drop (i + 1)) acc2 (backS ρ' ρ5 vs)) (es.drop (j + 1)) acc6 ρ6, ?_, ?_⟩
            · rintro H6 ⟨L6, ρ6, acc6, accV6, a1, a2, a3, a3', a4, a5, a6, a7, a8⟩
              exact ⟨es.length - (j + 1), by omega, L6, ρ6, acc6, accV6, a1, a2, a3, a3', a4, a5, a6, hjl, a7, a8, rfl⟩
            · intro x1 H6 y1
              have yk1 := yld1 x1 H6 y1
              have sy1 := yk1.same
              have Iy1 := (I5.grow sy1).wipe vs1
              have dx1 : Dp K (less H6 (D :: O ++ L5)) x1 e := yk1.dp I5.tr k3'
              have hD6 : H6 D = some (.lst accV5) := sy1 _ _ hD5
              have gy1 : Go L5 H5 L5 H6 := Go.same sy1
              have D_L5 : D ∉ L5 := fun z => I5.dis D z List.mem_cons_self
              have hA6 : DpAll K (less H6 (D :: (O ++ L5))) accV5 acc5 := hA5.up (less_mono sy1)
              unfold lcIn at hlc5
              refine hg1 e _ _ hlc5 (D :: O) L5 (wipe σ2 vs1) H6 x1 Iy1 dx1 _ fun σ3 ρ6 J6 e3 l3 q6 => ?_
              refine ⟨wipe_same hsl1 e3 l3, ht1 _ _ q6 (D :: O) L5 σ3 H6 J6 _ fun L7 b7 H7 ρ7 g7 J7 q7 => ?_⟩
              have e3' : ∀ j, j ∉ vs1 → σ3[j]? = σ2[j]? := fun j hj => by rw [e3 j fun z => hj (hsl1 j z), wipe_out hj]
              have l3' : σ3.length = σ2.length := l3.trans (wipe_length σ2 vs1)
              cases b7 with
              | false =>
                rw [if_neg Bool.false_ne_true] at q7 ⊢
                have gg := Go.less (O := D :: O) (gy1.trans g7)
                exact ⟨L7, _, acc5, accV5, fun b o z => gg b o (k1 b o z), (k2.trans gy1).trans g7, fun b o z => (less_some (gg b o (k3' b o z))).2, fun b o z => gg b o (k3' b o z), En.back (I5.grow sy1) g7 J7 e3' l3', g7.keep D _ hD6 D_L5, hA6.up (Go.less (O := D :: O) g7), by omega, q7⟩
              | true =>
                rw [if_pos rfl] at q7 ⊢
                refine he _ _ q7 (D :: O) L7 σ3 H7 J7 _ fun L8 u H8 r8 ρ8 g8 R8 q8 => ?_
                cases e8 : r8.dat with
                | none => simp only [e8] at q8
                | some w =>
                  simp only [e8] at q8
                  have g78 := g7.trans g8
                  have hD8 : H8 D = some (.lst accV5) := g78.keep D _ hD6 D_L5
                  have J8 : En K (D :: O) L8 H8 σ2 (backS ρ5 ρ8 vs1) := En.back (I5.grow sy1) g78 R8.en e3' l3'
                  have hA8 : DpAll K (less H8 (D :: (O ++ L8))) accV5 acc5 := hA6.up (Go.less (O := D :: O) g78)
                  have gg := Go.less (O := D :: O) (gy1.trans g78)
                  have eqD : less (upd H8 D (.lst (accV5 ++ [u]))) (D :: O ++ L8) = less H8 (D :: O ++ L8) := less_upd (List.mem_append_left _ List.mem_cons_self)
                  have D_L8 : D ∉ L8 := fun z => J8.dis D z List.mem_cons_self
                  have D_2 : H2 D ≠ none := by rw [hD2]; simp
                  refine ⟨accV5, hD8, ?_, L8, _, acc5 ++ [w], accV5 ++ [u], ?_, go_upd hD ((k2.trans gy1).trans g78), ?_, ?_, J8.updO List.mem_cons_self, upd_same, ?_, ?_, q8⟩
                  · rw [hA8.len]
                    exact lt_line (by omega)
                  · intro b o z
                    rw [eqD]
                    exact gg b o (k1 b o z)
                  · intro b o z
                    have := gg b o (k3' b o z)
                    rw [← eqD] at this
                    exact (less_some this).2
                  · intro b o z
                    rw [eqD]
                    exact gg b o (k3' b o z)
                  · rw [less_upd List.mem_cons_self]
                    exact hA8.app (.cons (R8.dp e8) .nil)
                  · rw [List.length_append, List.length_singleton]
                    omega
          · have e : j = es.length := by omega
            subst e
            rw [List.drop_length] at hlc5
            refine .inl ⟨(it1 H5 k3 es.length).2 (Nat.le_refl _), ?_⟩
            exact ⟨L5, _, acc5, accV5, k2, En.backG (I'.grow sy) k1 I5 e2' l2', hD5, hA5, by omega, hlc5⟩
  · have e : i = ds.length := by omega
    subst e
    rw [List.drop_length] at hlc
    refine .inl ⟨(it H' gH ds.length).2 (Nat.le_refl _), ?_⟩
    exact q L' _ H' (.nl acc) ρ' (g1'.trans g2) ⟨D, accV, rfl, g1'.free hD, D_O, I', hD', hA⟩ hlc
section
variable {X : Cx}
theorem de_lc2F {elt tg iter tg1 iter1 : Expr} {ifs ifs1 : List Expr} {scope : Scope} {own : List (Str × Nat)} {vs1 : List Nat} {pos : Pos} {wi : TI} {g g1 : BlkI → TG} {tt tt1 : BlkI → TT} {wi1 : BlkI → TI} {te : BlkI → TE} {sl sl1 : List Nat} {wI wI1 : WI} {wg wg1 : WG} {wt wt1 : WT} {we : WE} (hc : X.calm = true) (hN : X.N.Nodup) (hi : DI X tg iter wi wI) (ok : BlkOk X.N X.env.scope scope own)
    (hg : ∀ i : BlkI, DG (blkAt X scope i) tg (g i) sl wg) (ht : ∀ i : BlkI, DTs (blkAt X scope i) ifs (tt i) wt)
    (hi1 : ∀ i : BlkI, DI (blkAt X scope i) tg1 iter1 (wi1 i) wI1) (hg1 : ∀ i : BlkI, DG (blkAt X scope i) tg1 (g1 i) sl1 wg1) (ht1 : ∀ i : BlkI, DTs (blkAt X scope i) ifs1 (tt1 i) wt1)
    (he : ∀ i : BlkI, DE (blkAt X scope i) elt (te i) we) (hsl : ∀ j ∈ sl, j ∈ own.map (·.2) := by decide) (hsl1 : ∀ j ∈ sl1, j ∈ vs1 := by decide) (hv : ∀ i ∈ vs1, i ∈ own.map (·.2) := by decide)
    (hs : ∀ x, foldedSetIterable iter X.env x = pure x := by intro _; rfl) (hs1 : ∀ env x, foldedSetIterable iter1 env x = pure x := by intro _ _; rfl) :
    DE X (.ListComp elt [⟨tg, iter, ifs, 0⟩, ⟨tg1, iter1, ifs1, 0⟩] scope pos)
      (tLc2 wi (fun v σ H Q => ∀ i, g i v σ H Q) (fun σ H Q => ∀ i, tt i σ H Q) (fun σ H R => ∀ i, wi1 i σ H R) (fun v σ H Q => ∀ i, g1 i v σ H Q) (fun σ H Q => ∀ i, tt1 i σ H Q) (fun σ H Q => ∀ i, te i σ H Q) (own.map (·.2)) vs1) (wLc2 wI wg wt wI1 wg1 wt1 we (own.map (·.2)) vs1) :=
  ⟨pe_lc2 hc hN hi.pi ok hv (fun s H C cl fp => ⟨fun pins s1 σ H1 v u Q I r z => (hg (s, H, C, cl, fp)).pg.run pins s1 σ H1 v u Q I r (z _)⟩) (fun s H C cl fp => ⟨fun pins s1 σ H1 Q I z => (ht (s, H, C, cl, fp)).pts.run pins s1 σ H1 Q I (z _)⟩)
      (fun s H C cl fp => ⟨fun pins s1 σ H1 R I z => (hi1 (s, H, C, cl, fp)).pi.run pins s1 σ H1 R I (z _)⟩) (fun s H C cl fp => ⟨fun pins s1 σ H1 v u Q I r z => (hg1 (s, H, C, cl, fp)).pg.run pins s1 σ H1 v u Q I r (z _)⟩)
      (fun s H C cl fp => ⟨fun pins s1 σ H1 Q I z => (ht1 (s, H, C, cl, fp)).pts.run pins s1 σ H1 Q I (z _)⟩) (fun s H C cl fp => ⟨fun pins s1 σ H1 Q I z => (he (s, H, C, cl, fp)).pe.run pins s1 σ H1 Q I (z _)⟩) hs hs1,
    ev_lc2 hi.ev (fun d ρ Q w O L σ H v I hd QV q i => (hg i).ev d ρ Q w O L σ H v I hd QV q) hsl (fun ρ Q w O L σ H I QV q i => (ht i).ev ρ Q w O L σ H I QV q) (fun ρ Q w O L σ H I R q i => (hi1 i).ev ρ Q w O L σ H I R q)
      (fun d ρ Q w O L σ H v I hd QV q i => (hg1 i).ev d ρ Q w O L σ H v I hd QV q) hsl1 (fun ρ Q w O L σ H I QV q i => (ht1 i).ev ρ Q w O L σ H I QV q) (fun ρ Q w O L σ H I QV q i => (he i).ev ρ Q w O L σ H I QV q)⟩
theorem ds_setLc2F {i : Nat} {y : Str} {py : Pos} {elt tg iter tg1 iter1 : Expr} {ifs ifs1 : List Expr} {scope : Scope} {own : List (Str × Nat)} {vs1 : List Nat} {pos spos : Pos} {wi : TI} {g g1 : BlkI → TG} {tt tt1 : BlkI → TT} {wi1 : BlkI → TI} {te : BlkI → TE} {sl sl1 : List Nat} {wI wI1 : WI} {wg wg1 : WG} {wt wt1 : WT} {we : WE} (hc : X.calm = true) (hN : X.N.Nodup)
    (hy : X.N[i]? = some y) (hyl : X.env.scope.names.lookup y = some .local) (hsw : swapsWith (.ListComp elt [⟨tg, iter, ifs, 0⟩, ⟨tg1, iter1, ifs1, 0⟩] scope pos) (some (.Name y py)) spos.line X.env = pure true) (hi : DI X tg iter wi wI) (ok : BlkOk X.N X.env.scope scope own)
    (hg : ∀ i : BlkI, DG (blkAt X scope i) tg (g i) sl wg) (ht : ∀ i : BlkI, DTs (blkAt X scope i) ifs (tt i) wt)
    (hi1 : ∀ i : BlkI, DI (blkAt X scope i) tg1 iter1 (wi1 i) wI1) (hg1 : ∀ i : BlkI, DG (blkAt X scope i) tg1 (g1 i) sl1 wg1) (ht1 : ∀ i : BlkI, DTs (blkAt X scope i) ifs1 (tt1 i) wt1)
    (he : ∀ i : BlkI, DE (blkAt X scope i) elt (te i) we) (hsl : ∀ j ∈ sl, j ∈ own.map (·.2) := by decide) (hsl1 : ∀ j ∈ sl1, j ∈ vs1 := by decide) (hv : ∀ i ∈ vs1, i ∈ own.map (·.2) := by decide)
    (hs : ∀ x, foldedSetIterable iter X.env x = pure x := by intro _; rfl) (hs1 : ∀ env x, foldedSetIterable iter1 env x = pure x := by intro _ _; rfl) :
    DS X (.Assign [.Name y py] (.ListComp elt [⟨tg, iter, ifs, 0⟩, ⟨tg1, iter1, ifs1, 0⟩] scope pos) spos)
      (tAsg (tLc2 wi (fun v σ H Q => ∀ i, g i v σ H Q) (fun σ H Q => ∀ i, tt i σ H Q) (fun σ H R => ∀ i, wi1 i σ H R) (fun v σ H Q => ∀ i, g1 i v σ H Q) (fun σ H Q => ∀ i, tt1 i σ H Q) (fun σ H Q => ∀ i, te i σ H Q) (own.map (·.2)) vs1) (gName i))
      (wSet i (wLc2 wI wg wt wI1 wg1 wt1 we (own.map (·.2)) vs1)) :=
  ⟨ps_setLc2 hc hN hy hyl hsw hi.pi ok hv (fun s H C cl fp => ⟨fun pins s1 σ H1 v u Q I r z => (hg (s, H, C, cl, fp)).pg.run pins s1 σ H1 v u Q I r (z _)⟩) (fun s H C cl fp => ⟨fun pins s1 σ H1 Q I z => (ht (s, H, C, cl, fp)).pts.run pins s1 σ H1 Q I (z _)⟩)
      (fun s H C cl fp => ⟨fun pins s1 σ H1 R I z => (hi1 (s, H, C, cl, fp)).pi.run pins s1 σ H1 R I (z _)⟩) (fun s H C cl fp => ⟨fun pins s1 σ H1 v u Q I r z => (hg1 (s, H, C, cl, fp)).pg.run pins s1 σ H1 v u Q I r (z _)⟩)
      (fun s H C cl fp => ⟨fun pins s1 σ H1 Q I z => (ht1 (s, H, C, cl, fp)).pts.run pins s1 σ H1 Q I (z _)⟩) (fun s H C cl fp => ⟨fun pins s1 σ H1 Q I z => (he (s, H, C, cl, fp)).pe.run pins s1 σ H1 Q I (z _)⟩) hs hs1,
    ev_set i (ev_lc2 hi.ev (fun d ρ Q w O L σ H v I hd QV q i => (hg i).ev d ρ Q w O L σ H v I hd QV q) hsl (fun ρ Q w O L σ H I QV q i => (ht i).ev ρ Q w O L σ H I QV q) (fun ρ Q w O L σ H I R q i => (hi1 i).ev ρ Q w O L σ H I R q)
      (fun d ρ Q w O L σ H v I hd QV q i => (hg1 i).ev d ρ Q w O L σ H v I hd QV q) hsl1 (fun ρ Q w O L σ H I QV q i => (ht1 i).ev ρ Q w O L σ H I QV q) (fun ρ Q w O L σ H I QV q i => (he i).ev ρ Q w O L σ H I QV q))⟩
end
end DC

set_option Elab.async false
set_option linter.all false
set_option maxRecDepth 100000
set_option maxHeartbeats 1000000
/-! data within data: in, index; the least and the greatest of data -/
namespace DC
open PySem PySem.Spec PyProof.Rows L2
mutual
/-- no truth, no dict within -/
def plD : PyData → Bool
  | .none => true
  | .int _ => true
  | .str x => PyData.strOk x
  | .list ds => plDs ds
  | .tuple ds => plDs ds
  | _ => false
def plDs : List PyData → Bool
  | [] => true
  | d :: ds => plD d && plDs ds
end
theorem plDs_iff {ds : List PyData} : plDs ds = true ↔ ∀ d ∈ ds, plD d = true := by
  induction ds with
  | nil => simp [plDs]
  | cons a r ih => simp [plDs, ih]
mutual
theorem plD_lay : ∀ d : PyData, plD d = true → d.canLay0 = true
  | .none, _ => by simp [PyData.canLay0]
  | .int _, _ => by simp [PyData.canLay0]
  | .str x, h => by simp only [PyData.canLay0]; exact h
  | .list ds, h => by simp only [PyData.canLay0]; exact plDs_lay ds h
  | .tuple ds, h => by simp only [PyData.canLay0]; exact plDs_lay ds h
  | .bool _, h => by cases h
  | .dict _, h => by cases h
theorem plDs_lay : ∀ ds : List PyData, plDs ds = true → PyData.canLayAll0 ds = true
  | [], _ => by simp [PyData.canLayAll0]
  | d :: ds, h => by
    simp only [plDs, Bool.and_eq_true] at h
    simp only [PyData.canLayAll0, plD_lay d h.1, plDs_lay ds h.2, Bool.and_self]
end
mutual
theorem plD_eqv : ∀ d e : PyData, plD d = true → plD e = true → (PyData.eqv d e = true ↔ d = e)
  | .none, e, _, he => by cases e <;> simp_all [PyData.eqv, plD]
  | .int i, e, _, he => by cases e <;> simp_all [PyData.eqv, plD]
  | .str x, e, _, he => by cases e <;> simp_all [PyData.eqv, plD]
  | .list ds, e, hd, he => by
    cases e with
    | list es => simp only [PyData.eqv, PyData.list.injEq]; exact plDs_eqv ds es hd he
    | _ => simp_all [PyData.eqv, plD]
  | .tuple ds, e, hd, he => by
    cases e with
    | tuple es => simp only [PyData.eqv, PyData.tuple.injEq]; exact plDs_eqv ds es hd he
    | _ => simp_all [PyData.eqv, plD]
  | .bool _, _, h, _ => by cases h
  | .dict _, _, h, _ => by cases h
theorem plDs_eqv : ∀ ds es : List PyData, plDs ds = true → plDs es = true → (PyData.eqvAll ds es = true ↔ ds = es)
  | [], [], _, _ => by simp [PyData.eqvAll]
  | [], _ :: _, _, _ => by simp [PyData.eqvAll]
  | _ :: _, [], _, _ => by simp [PyData.eqvAll]
  | d :: ds, e :: es, hd, he => by
    simp only [plDs, Bool.and_eq_true] at hd he
    simp only [PyData.eqvAll, Bool.and_eq_true, plD_eqv d e hd.1 he.1, plDs_eqv ds es hd.2 he.2, List.cons.injEq]
end
/-- whether a datum is among others -/
def memB (d : PyData) (ds : List PyData) : Bool := ds.any fun z => PyData.eqv z d
theorem memB_iff {d : PyData} {ds : List PyData} (hd : plD d = true) (hs : plDs ds = true) : memB d ds = true ↔ d ∈ ds := by
  unfold memB
  rw [List.any_eq_true]
  constructor
  · rintro ⟨z, hz, e⟩
    have := (plD_eqv z d (plDs_iff.mp hs z hz) hd).mp e
    exact this ▸ hz
  · intro h
    exact ⟨d, h, (plD_eqv d d hd hd).mpr rfl⟩
theorem memB_map {α : Type} [DecidableEq α] {enc : α → PyData} (inj : ∀ a b, enc a = enc b → a = b) (pl : ∀ a, plD (enc a) = true) (a : α) (l : List α) : memB (enc a) (l.map enc) = decide (a ∈ l) := by
  rw [Bool.eq_iff_iff, memB_iff (pl a) (plDs_iff.mpr fun d hd => by obtain ⟨b, _, rfl⟩ := List.mem_map.mp hd; exact pl b), decide_eq_true_eq, List.mem_map]
  constructor
  · rintro ⟨b, hb, e⟩
    exact inj _ _ e ▸ hb
  · exact fun h => ⟨a, h, rfl⟩
/-- a datum in a list or a tuple of data -/
@[simp] def rdInX (neg : Bool) : D2 := fun d e Q => ∃ ds, seqOf e = some ds ∧ (plD d = true ∧ plDs ds = true ∧ d.depth ≤ 60) ∧ Q (.fz (.bool (if neg then !memB d ds else memB d ds)))
def rInX (K : PySem.W.Frag) (neg : Bool) : R2 := fun x y H Q => ∃ d e ds, Dp K H x d ∧ Dp K H y e ∧ seqOf e = some ds ∧ (plD d = true ∧ plDs ds = true ∧ d.depth ≤ 60) ∧ Q (.bl (if neg then !memB d ds else memB d ds)) H
theorem shaped_pl {d : PyData} (h : plD d = true) (h2 : d.depth ≤ 60) : SeqAt.shaped d = true := by
  unfold SeqAt.shaped
  rw [plD_lay d h, Bool.true_and]
  exact decide_eq_true (by omega)
theorem op_inX {X : Cx} (hu : X.A.units + 65 < cLine) : OpR X (compareOp .In) (rInX X.K false) := by
  intro pins s σ H x y v u Q I rx ry h
  obtain ⟨d, e, ds, hd, he, hs, ⟨p1, p2, p3⟩, q⟩ := h
  obtain ⟨as, r1⟩ := Dp.reads I d x v hd rx
  obtain ⟨bs, r2⟩ := Dp.reads I e y u he ry
  cases e with
  | list es =>
    cases hs
    exact SeqAt.in_list_reads r2 r1 (plDs_lay _ p2) (plD_lay d p1) (room_in_shaped (shaped_pl p1 p3) hu) ⟨.bl _, H, I, rfl, q⟩
  | tuple es =>
    cases hs
    exact SeqAt.in_tuple_reads r2 r1 (plDs_lay _ p2) (plD_lay d p1) (room_in_shaped (shaped_pl p1 p3) hu) ⟨.bl _, H, I, rfl, q⟩
  | _ => cases hs
theorem op_notInX {X : Cx} (hu : X.A.units + 65 < cLine) : OpR X (compareOp .NotIn) (rInX X.K true) := by
  intro pins s σ H x y v u Q I rx ry h
  obtain ⟨d, e, ds, hd, he, hs, ⟨p1, p2, p3⟩, q⟩ := h
  obtain ⟨as, r1⟩ := Dp.reads I d x v hd rx
  obtain ⟨bs, r2⟩ := Dp.reads I e y u he ry
  cases e with
  | list es =>
    cases hs
    exact SeqAt.notIn_list_reads r2 r1 (plDs_lay _ p2) (plD_lay d p1) (room_in_shaped (shaped_pl p1 p3) hu) ⟨.bl _, H, I, rfl, q⟩
  | tuple es =>
    cases hs
    exact SeqAt.notIn_tuple_reads r2 r1 (plDs_lay _ p2) (plD_lay d p1) (room_in_shaped (shaped_pl p1 p3) hu) ⟨.bl _, H, I, rfl, q⟩
  | _ => cases hs
theorem lift_inX {K : PySem.W.Frag} {neg : Bool} : Lift2 K (rInX K neg) (rdInX neg) := by
  intro M H x y d e Qd tr hx hy ⟨ds, hs, pl, h⟩ Q q
  exact ⟨d, e, ds, hx.up less_sub, hy.up less_sub, hs, pl, q _ H (.fz (.bool _)) (Same.refl H) (.bl _) h⟩
/-! ### list.index -/
@[simp] def isLst : Option PyData → Prop
  | some (.list _) => True
  | _ => False
@[simp] def wIndex (wo we : WE) : WE := fun ρ Q => wo ρ fun r ρ1 => isLst r.dat ∧ we ρ1 fun r2 ρ2 => match r.dat, r2.dat with
  | some (.list ds), some d => (plD d = true ∧ plDs ds = true ∧ d.depth ≤ 60 ∧ ∀ x ∈ ds, x.depth ≤ 60) ∧ ∃ j, ds[j]? = some d ∧ (∀ m, m < j → ds[m]? ≠ some d) ∧ Q (.fz (.int (j : Nat))) ρ2
  | _, _ => False
theorem depthAll_le {ds : List PyData} {n : Nat} (h : ∀ x ∈ ds, x.depth ≤ n) : PyData.depthAll ds ≤ n := by
  induction ds with
  | nil => simp [PyData.depthAll]
  | cons a r ih =>
    have := h a List.mem_cons_self
    have := ih fun x hx => h x (List.mem_cons_of_mem _ hx)
    simp only [PyData.depthAll]
    omega
theorem de_index {X : Cx} {pos p3 : Pos} {o e : Expr} {to te : TE} {wo we : WE} (hu : X.A.units + 65 < cLine) (ho : DE X o to wo) (he : DE X e te we) (hbase : attributeBase o "index" X.env (eval o X.env) = eval o X.env := by rfl)
    (hfew : ((backTo pos (starEach (e :: []) X.env)).all (fun x => !x.1) && (backToKw pos (keywordEach [] X.env)).all (fun x => x.1.isSome)
      && decide ((e :: []).length + ([] : List Keyword).length + (if ([] : List Keyword).isEmpty then 0 else 1) < 30)) = true := by rfl)
    (hline : (p3.endLine == pos.line) = true := by rfl) (hs : starEach (e :: []) X.env = (false, eval e X.env) :: starEach [] X.env := by rfl) : DE X (.Call (.Attribute o "index" p3) [e] [] pos) (tBM X.K "list" (rIndexD X.K) to (tCons te tNil)) (wIndex wo we) := by
  refine ⟨pe_bm PySem.F.plainAttrs_list PySem.F.slot_list_index PySem.F.type_list_index (mt_indexD hu) ho.pe (pa_cons he.pe pa_nil hs) hbase hfew hline hs rfl, fun ρ Q h O L σ H I QV q => ?_⟩
  refine ho.ev ρ _ h O L σ H I _ fun L1 v H1 r1 ρ1 g1 R1 h1 => ?_
  obtain ⟨hl, h1⟩ := h1
  have key : ∃ xs a, v = .ref a ∧ SqL X.K H1 a xs := by
    cases e1 : r1.dat with
    | none => rw [e1] at hl; exact hl.elim
    | some d =>
      rw [e1] at hl
      cases d with
      | list ds =>
        obtain ⟨a, xs, rfl, s1, _⟩ := dp_listI (R1.dp e1)
        exact ⟨xs, a, rfl, sql_mono less_sub s1⟩
      | _ => exact hl.elim
  have fin : ∀ (L2 : List Addr) (u : V) (H2 : Hp) (r2 : Rs) (ρ2 : List Sl), Go L1 H1 L2 H2 → RsOk X.K O L2 H1 H2 σ ρ2 u r2 → (match r1.dat, r2.dat with
      | some (.list ds), some d => (plD d = true ∧ plDs ds = true ∧ d.depth ≤ 60 ∧ ∀ x ∈ ds, x.depth ≤ 60) ∧ ∃ j, ds[j]? = some d ∧ (∀ m, m < j → ds[m]? ≠ some d) ∧ Q (.fz (.int (j : Nat))) ρ2
      | _, _ => False) → rIndexD X.K v [u] H2 QV := fun L2 u H2 r2 ρ2 g2 R2 h2 => by
    cases e1 : r1.dat with
    | none => simp only [e1] at h2
    | some d1 =>
      cases e2 : r2.dat with
      | none =>
        simp only [e1, e2] at h2
      | some d =>
        simp only [e1, e2] at h2
        split at h2
        · rename_i ds d' z1 z2
          cases z1
          cases z2
          obtain ⟨⟨p1, p2, p3, p4⟩, j, hj, hb, q2⟩ := h2
          have D1 := (R1.dp e1).up (Go.less (O := O) g2)
          obtain ⟨a, xs, rfl, s1, al⟩ := dp_listI D1
          refine ⟨a, u, d, ds, j, d, rfl, rfl, .lst (sql_mono less_sub s1) (al.up less_sub), (R2.dp e2).up less_sub, ?_, shaped_pl p1 p3, hj, (plD_eqv d d p1 p1).mpr rfl, fun m z hm hz => ?_, ?_⟩
          · unfold SeqAt.shaped
            simp only [PyData.canLay0, PyData.depth, plDs_lay ds p2, Bool.true_and]
            have := depthAll_le p4
            exact decide_eq_true (by omega)
          · have hzp := plDs_iff.mp p2 z (List.mem_of_getElem? hz)
            cases q3 : PyData.eqv z d with
            | false => rfl
            | true =>
              have := (plD_eqv z d hzp p1).mp q3
              subst this
              exact absurd hz (hb m hm)
          · exact q L2 _ H2 (.fz (.int (j : Nat))) ρ2 (g1.trans g2) (.f R2.en (.int _)) q2
        · exact h2.elim
  obtain ⟨xs, a, rfl, s1⟩ := key
  exact ⟨.inl ⟨rfl, xs, s1⟩, he.ev ρ1 _ h1 O L1 σ H1 R1.en _ fun L2 u H2 r2 ρ2 g2 R2 h2 => fin L2 u H2 r2 ρ2 g2 R2 h2⟩
/-! ### min, max of data -/
theorem minD_mem (x : PyData) : ∀ xs : List PyData, PySem.W.minD x xs ∈ x :: xs := by
  intro xs
  unfold PySem.W.minD
  induction xs generalizing x with
  | nil => simp
  | cons a r ih =>
    rw [List.foldl_cons]
    split
    · exact List.mem_cons_of_mem _ (ih a)
    · rcases List.mem_cons.mp (ih x) with z | z
      · rw [z]; exact List.mem_cons_self
      · exact List.mem_cons_of_mem _ (List.mem_cons_of_mem _ z)
theorem maxD_mem (x : PyData) : ∀ xs : List PyData, PySem.W.maxD x xs ∈ x :: xs := by
  intro xs
  unfold PySem.W.maxD
  induction xs generalizing x with
  | nil => simp
  | cons a r ih =>
    rw [List.foldl_cons]
    split
    · exact List.mem_cons_of_mem _ (ih a)
    · rcases List.mem_cons.mp (ih x) with z | z
      · rw [z]; exact List.mem_cons_self
      · exact List.mem_cons_of_mem _ (List.mem_cons_of_mem _ z)
def rBest (K : PySem.W.Frag) (f : PyData → List PyData → PyData) : List V → Hp → VK → Prop := fun xs H Q => ∃ v d x r G, xs = [v] ∧ Same G H ∧ Dp K G v d ∧ seqOf d = some (x :: r) ∧ PySem.W.AlikeAll (x :: r) ∧ PyData.depthAll (x :: r) ≤ 60 ∧ ∀ y, Dp K G y (f x r) → Q y H
@[simp] def rdBest (f : PyData → List PyData → PyData) : DCl := fun ds Q => ∃ d x r, ds = [d] ∧ seqOf d = some (x :: r) ∧ PySem.W.AlikeAll (x :: r) ∧ PyData.depthAll (x :: r) ≤ 60 ∧ Q (.fz (f x r))
theorem lift_best {K : PySem.W.Frag} {f : PyData → List PyData → PyData} : LiftC K (rBest K f) (rdBest f) := by
  intro M H xs ds Qd tr hx ⟨d, x, r, e0, hs, al, dp, h⟩ Q q
  subst e0
  obtain ⟨v, rfl, hv⟩ := dpAll1 hx
  exact ⟨v, d, x, r, less H M, rfl, less_sub, hv, hs, al, dp, fun y hy => q y H (.fz _) (Same.refl H) hy h⟩
section
variable {X : Cx} {pins : List (Addr × Obj)} {σ : L2.St} {H G : Hp} {s : Shared}
/-- the value that is read as the best -/
theorem best_of (I : Inv X pins σ H s) (sG : Same G H) {xs : List V} {its : List Value} {ds : List PyData} {m : PyData} (rv : Vals xs its) (al : DpAll X.K G xs ds) (ha : PySem.W.AlikeAll ds) (hm : m ∈ ds) {i : Nat} {v : Value} {bs : List Addr} {h2 : Heap} (hi : its[i]? = some v) (hr : Reads h2 v m bs)
    (kp : ∀ b o, s.heap.get? b = some o → h2.get? b = some o) : ∃ y, RelV y v ∧ Dp X.K G y m := by
  have hl := rv.length
  have hil := (List.getElem?_eq_some_iff.mp hi).1
  obtain ⟨x, hx⟩ : ∃ x, xs[i]? = some x := ⟨xs[i], by simp⟩
  obtain ⟨u, hu, ru⟩ := rv.get hx
  rw [hi] at hu
  cases hu
  obtain ⟨d, hd, dx⟩ := al.atV hx
  obtain ⟨as, r1⟩ := Dp.reads I d x v (dx.up sG) ru
  have e : d = m := PySem.W.alike_unique d m v _ _ (ha.1 d (List.mem_of_getElem? hd) m hm) (Reads.keeps kp r1) hr
  subst e
  exact ⟨x, ru, dx⟩
end
theorem cr_minD {X : Cx} (hc : X.calm = true) (hu : X.A.units + 64 < cLine) : CallR X (.builtin "min") (rBest X.K PySem.W.minD) := by
  intro pins s σ H xs us Q I r h
  obtain ⟨v, d, x, rr, G, rfl, sG, hd, hs, ha, dp, q⟩ := h
  obtain ⟨a, ys, rfl, hq, al⟩ := dp_seqI hd hs
  rw [Vals.ref1 r]
  have fin : ∀ (its : List Value), Vals ys its → ∀ (i : Nat) (v : Value) (h2 : Heap) (tk : Nat) (bs : List Addr), its.toArray[i]? = some v → Reads h2 v (PySem.W.minD x rr) bs → (∀ b o, s.heap.get? b = some o → h2.get? b = some o) → ∃ v' H', Inv X pins σ H' { s with heap := h2, toks := tk } ∧ RelV v' v ∧ Q v' H' := fun its rv i v h2 tk bs hi hr kp => by
    obtain ⟨y, ry, dy⟩ := best_of I sG rv al ha (minD_mem x rr) (by simpa using hi) hr kp
    exact ⟨y, H, I.kept (t' := tk) kp, ry, q y dy⟩
  rcases hq with hq | hq
  · obtain ⟨its, rv, pl, hz⟩ := I.list (sql_mono sG hq)
    obtain ⟨as, ra⟩ := Dp.readsAll I _ ys its (al.up sG) rv
    exact PySem.W.min_list_data (I.ok.hd hc) pl.isList ra ha (by omega) (fin its rv)
  · obtain ⟨its, rv, pl, hz⟩ := I.tuple (sqt_mono sG hq)
    obtain ⟨as, ra⟩ := Dp.readsAll I _ ys its (al.up sG) rv
    exact PySem.W.min_tuple_data (I.ok.hd hc) pl ra ha (by omega) (fin its rv)
theorem cr_maxD {X : Cx} (hc : X.calm = true) (hu : X.A.units + 64 < cLine) : CallR X (.builtin "max") (rBest X.K PySem.W.maxD) := by
  intro pins s σ H xs us Q I r h
  obtain ⟨v, d, x, rr, G, rfl, sG, hd, hs, ha, dp, q⟩ := h
  obtain ⟨a, ys, rfl, hq, al⟩ := dp_seqI hd hs
  rw [Vals.ref1 r]
  have fin : ∀ (its : List Value), Vals ys its → ∀ (i : Nat) (v : Value) (h2 : Heap) (tk : Nat) (bs : List Addr), its.toArray[i]? = some v → Reads h2 v (PySem.W.maxD x rr) bs → (∀ b o, s.heap.get? b = some o → h2.get? b = some o) → ∃ v' H', Inv X pins σ H' { s with heap := h2, toks := tk } ∧ RelV v' v ∧ Q v' H' := fun its rv i v h2 tk bs hi hr kp => by
    obtain ⟨y, ry, dy⟩ := best_of I sG rv al ha (maxD_mem x rr) (by simpa using hi) hr kp
    exact ⟨y, H, I.kept (t' := tk) kp, ry, q y dy⟩
  rcases hq with hq | hq
  · obtain ⟨its, rv, pl, hz⟩ := I.list (sql_mono sG hq)
    obtain ⟨as, ra⟩ := Dp.readsAll I _ ys its (al.up sG) rv
    exact PySem.W.max_list_data (I.ok.hd hc) pl.isList ra ha (by omega) (fin its rv)
  · obtain ⟨its, rv, pl, hz⟩ := I.tuple (sqt_mono sG hq)
    obtain ⟨as, ra⟩ := Dp.readsAll I _ ys its (al.up sG) rv
    exact PySem.W.max_tuple_data (I.ok.hd hc) pl ra ha (by omega) (fin its rv)
theorem units65 {k : Nat} {A : Around} (r : Room k A) : A.units + 65 < cLine := by have := r.un; omega
end DC

set_option Elab.async false
set_option linter.all false
set_option maxRecDepth 100000
set_option maxHeartbeats 1000000
namespace DC
open PySem PySem.Spec PyProof.Rows L2
section
variable {X : Cx} {pos : Pos} {a b c : Expr}
/-- x, y, z = a, b, c with names that a comprehension holds: stored from the left -/
theorem ps_par3C {i j k : Nat} {x y z : Str} {ta : TA} {px py pz pt : Pos} {kt k2 pt2} (hc : X.calm = true) (hN : X.N.Nodup) (hi : X.N[i]? = some x) (hj : X.N[j]? = some y) (hk : X.N[k]? = some z) (hx : Loc X.env.scope x) (hy : Loc X.env.scope y) (hz : Loc X.env.scope z) (ha : PA X [a, b, c] ta)
    (hw : swappedStores [.Tuple [.Name x px, .Name y py, .Name z pz] kt pt] (.Tuple [a, b, c] k2 pt2) X.env = pure none) (hs : swapsWithSole [.Tuple [.Name x px, .Name y py, .Name z pz] kt pt] (.Tuple [a, b, c] k2 pt2) pos.line X.env = pure false)
    (h1 : (assignEach [.Tuple [.Name x px, .Name y py, .Name z pz] kt pt] X.env).map (·.2) = [assign (.Tuple [.Name x px, .Name y py, .Name z pz] kt pt) X.env]) (hn : (assignEach [.Name x px, .Name y py, .Name z pz] X.env).length = 3) (hst : (assignEach [.Name x px, .Name y py, .Name z pz] X.env).findIdx? (·.1) = none)
    (h2 : (assignEach [.Name x px, .Name y py, .Name z pz] X.env).map (·.2) = [assign (.Name x px) X.env, assign (.Name y py) X.env, assign (.Name z pz) X.env])
    (fx : X.fn x = true ∨ X.env.scope.names.lookup x = some .local) (fy : X.fn y = true ∨ X.env.scope.names.lookup y = some .local) (fz : X.fn z = true ∨ X.env.scope.names.lookup z = some .local) :
    PS X (.Assign [.Tuple [.Name x px, .Name y py, .Name z pz] kt pt] (.Tuple [a, b, c] k2 pt2) pos) (tPar3 i j k ta) := by
  refine ⟨fun pins s σ H D I h => ?_⟩
  refine wpAny_Assign_stores (Tuple_ (thn (ha.run _ pins s σ H _ I h) fun us s1 ⟨vs, H1, I1, r1, q1⟩ => ?_)) hs hw
  obtain ⟨v, w, t, e1, q1⟩ := q1
  subst e1
  obtain ⟨u1, u2, u3, rfl, rv, rw', rt⟩ : ∃ u1 u2 u3, us = [u1, u2, u3] ∧ RelV v u1 ∧ RelV w u2 ∧ RelV t u3 := by
    cases r1 with
    | cons p q =>
      cases q with
      | cons p' q' =>
        cases q' with
        | cons p2 q2 =>
          cases q2
          exact ⟨_, _, _, rfl, p, p', p2⟩
  refine wpAny_newObj_type ?_ (by show 3 ≤ sizeLine; decide)
  have I2 : Inv X pins σ H1 { s1 with heap := s1.heap.push { cls := .type "tuple", data := .seq [u1, u2, u3].toArray } } := I1.kept (t' := s1.toks) fun b o e => Heap.get?_push_of_some _ e
  rw [h1]
  show wpAny (model X.prog X.w) X.A (assign (.Tuple [.Name x px, .Name y py, .Name z pz] kt pt) X.env (.ref s1.heap.objs.size)) _ _ _
  refine assign_Tuple_tuple (items := #[u1, u2, u3]) (I.ok.hd hc) (IsTup.new s1.heap _) (by simp [hn]) hst fun h' hx' => ?_
  have I3 := I2.kept (h' := h') (t' := s1.toks) fun b o e => hx' b o (Nat.ne_of_lt (Heap.lt_size e)) e
  rw [h2]
  show wpAny _ _ (assignInOrder [assign (.Name x px) X.env, assign (.Name y py) X.env, assign (.Name z pz) X.env] [u1, u2, u3]) _ _ _
  refine assignInOrder_cons (wpAny_assign_Name (store_ok I3 hN hi hx rv (fun s3 I4 => ?_) fx))
  refine assignInOrder_cons (wpAny_assign_Name (store_ok I4 hN hj hy rw' (fun s4 I5 => ?_) fy))
  exact assignInOrder_cons (wpAny_assign_Name (store_ok I5 hN hk hz rt (fun s5 I6 => assignInOrder_nil ⟨_, H1, I6, q1⟩) fz))
theorem ds_par3C {i j k : Nat} {x y z : Str} {ta : TA} {wr : WR} {px py pz pt : Pos} {kt k2 pt2} (hc : X.calm = true) (hN : X.N.Nodup) (hi : X.N[i]? = some x) (hj : X.N[j]? = some y) (hk : X.N[k]? = some z) (hx : Loc X.env.scope x) (hy : Loc X.env.scope y) (hz : Loc X.env.scope z) (ha : DR X [a, b, c] ta wr)
    (fx : X.fn x = true) (fy : X.fn y = true) (fz : X.fn z = true) (hw : swappedStores [.Tuple [.Name x px, .Name y py, .Name z pz] kt pt] (.Tuple [a, b, c] k2 pt2) X.env = pure none := by rfl) (hs : swapsWithSole [.Tuple [.Name x px, .Name y py, .Name z pz] kt pt] (.Tuple [a, b, c] k2 pt2) pos.line X.env = pure false := by rfl)
    (h1 : (assignEach [.Tuple [.Name x px, .Name y py, .Name z pz] kt pt] X.env).map (·.2) = [assign (.Tuple [.Name x px, .Name y py, .Name z pz] kt pt) X.env] := by rfl) (hn : (assignEach [.Name x px, .Name y py, .Name z pz] X.env).length = 3 := by rfl) (hst : (assignEach [.Name x px, .Name y py, .Name z pz] X.env).findIdx? (·.1) = none := by rfl)
    (h2 : (assignEach [.Name x px, .Name y py, .Name z pz] X.env).map (·.2) = [assign (.Name x px) X.env, assign (.Name y py) X.env, assign (.Name z pz) X.env] := by rfl) :
    DS X (.Assign [.Tuple [.Name x px, .Name y py, .Name z pz] kt pt] (.Tuple [a, b, c] k2 pt2) pos) (tPar3 i j k ta) (wPar [i, j, k] wr) := by
  refine ⟨ps_par3C hc hN hi hj hk hx hy hz ha.pa hw hs h1 hn hst h2 (.inl fx) (.inl fy) (.inl fz), fun ρ D h O L0 L σ H0 H g I E l => ?_⟩
  refine ha.ev ρ _ h O L σ H I _ fun L1 vs H1 ps rs ρ1 g1 I1 nd no pn ⟨hl, h1⟩ => ?_
  have hv := pn.len.trans hl
  obtain ⟨L', I', s⟩ := En.sets (is := [i, j, k]) hv.symm I1 nd no pn
  match vs, hv with
  | [v, u, t], _ => exact ⟨v, u, t, rfl, l.nx L' _ H1 _ (g.trans ⟨g1.keep, fun a z => (s a z).elim (g1.gr a) .inr, g1.st⟩) I' h1⟩
end
/-! ### enumerate of a list or a tuple -/
theorem itok_enumL {K : PySem.W.Frag} {G : Hp} {a : Addr} {xs : List V} {ds : List PyData} (s1 : SqL K G a xs) (d1 : DpAll K G xs ds) : ItOk K G (Ite K a) (enumD ds) := fun H g i => by
  refine ⟨fun d hd => ?_, fun hl => ⟨xs, sql_mono g s1, ?_⟩⟩
  · obtain ⟨u, e1, rfl⟩ := enumD_get hd
    obtain ⟨v1, k1, k2⟩ := d1.at_ e1
    refine ⟨⟨xs, v1, sql_mono g s1, k1⟩, fun x H' y => ?_⟩
    obtain ⟨T, x', rfl, hT, rfl, f1⟩ := y
    have m1 := f1 xs (sql_mono g s1)
    rw [k1] at m1
    cases m1
    exact .inr ⟨T, _, _, rfl, hT, rfl, rfl, .cons (.int _) (.cons k2 .nil)⟩
  · unfold enumD at hl
    rw [List.length_mapIdx] at hl
    rw [d1.len]
    omega
theorem itok_enumT {K : PySem.W.Frag} {G : Hp} {a : Addr} {xs : List V} {ds : List PyData} (s1 : SqT K G a xs) (d1 : DpAll K G xs ds) : ItOk K G (IteT K a) (enumD ds) := fun H g i => by
  refine ⟨fun d hd => ?_, fun hl => ⟨xs, sqt_mono g s1, ?_⟩⟩
  · obtain ⟨u, e1, rfl⟩ := enumD_get hd
    obtain ⟨v1, k1, k2⟩ := d1.at_ e1
    refine ⟨⟨xs, v1, sqt_mono g s1, k1⟩, fun x H' y => ?_⟩
    obtain ⟨T, x', rfl, hT, rfl, f1⟩ := y
    have m1 := f1 xs (sqt_mono g s1)
    rw [k1] at m1
    cases m1
    exact .inr ⟨T, _, _, rfl, hT, rfl, rfl, .cons (.int _) (.cons k2 .nil)⟩
  · unfold enumD at hl
    rw [List.length_mapIdx] at hl
    rw [d1.len]
    omega
def iEnumX (K : PySem.W.Frag) (ta : TA) : TI := fun σ H R => ta σ H fun vs H1 => ∃ a xs, vs = [.ref a] ∧ ((SqL K H1 a xs ∧ R (Ite K a) H1) ∨ (SqT K H1 a xs ∧ R (IteT K a) H1))
theorem pi_enumX {X : Cx} {e : Expr} {ta : TA} {p pos tpos : Pos} {elts : List Expr} {kk : Nat} (hg : Gl X "enumerate") (hm : X.mg "enumerate" = none) (ha : PA X [e] ta) (hs : starEach [e] X.env = [(false, eval e X.env)]) :
    PI X (.Tuple elts kk tpos) (.Call (.Name "enumerate" p) [e] [] pos) (iEnumX X.K ta) := by
  refine ⟨fun pins s σ H R I h => ?_⟩
  refine Call_ (ld_blt I hg hm boot_enumerate (PyProof.Rows.callWith_type1 (thn (ha.run pos pins s σ H _ I h) fun us s1 ⟨vs, H1, I1, r1, q1⟩ => ?_) hs rfl))
  obtain ⟨a, xs, rfl, q⟩ := q1
  cases r1 with
  | cons r rr =>
    cases rr
    cases r
    have e2 : ∀ b, b ∈ [s1.heap.objs.size + 1, s1.heap.objs.size] → s1.heap.objs.size ≤ b := fun b hb => by
      have e' : b = s1.heap.objs.size + 1 ∨ b = s1.heap.objs.size := by simpa using hb
      rcases e' with z | z
      · rw [z]; exact Nat.le_add_right _ _
      · rw [z]; exact Nat.le_refl _
    rcases q with ⟨hq, q⟩ | ⟨hq, q⟩
    · obtain ⟨its, rv, p', hz⟩ := I1.list hq
      refine call_enumerate_list p'.isList fun h' he hit hsz hk => wpAny_pyIter_enum he ?_
      have I2 : Inv X pins σ H1 { s1 with heap := h' } := I1.kept (t' := s1.toks) hk
      exact ⟨s1.heap.objs.size + 1, [s1.heap.objs.size + 1, s1.heap.objs.size], _, _, H1, rfl, I2, turn_enum a (s1.heap.objs.size + 1) s1.heap.objs.size, ⟨⟨.none, he⟩, hit, Nat.succ_ne_self _⟩, fun b hb => I1.fpOk (e2 b hb) (I1.hok.fresh (e2 b hb)), q⟩
    · obtain ⟨its, rv, p', hz⟩ := I1.tuple hq
      obtain ⟨oa, ha', _⟩ := id p'
      have hal : a < s1.heap.objs.size := Heap.lt_size ha'
      refine call_enumT (show s1.heap.IsTuple a its.toArray from p') fun h' he hit hsz hk => wpAny_pyIter_enum he ?_
      have I2 : Inv X pins σ H1 { s1 with heap := h' } := I1.kept (t' := s1.toks) hk
      exact ⟨s1.heap.objs.size + 1, [s1.heap.objs.size + 1, s1.heap.objs.size], _, _, H1, rfl, I2, turn_enumT a (s1.heap.objs.size + 1) s1.heap.objs.size (Nat.ne_of_lt hal), ⟨⟨.none, he⟩, hit, Nat.succ_ne_self _, fun z => Nat.lt_irrefl _ (Nat.lt_trans (Nat.lt_succ_self _) (z ▸ hal))⟩, fun b hb => I1.fpOk (e2 b hb) (I1.hok.fresh (e2 b hb)), q⟩
@[simp] def wEnumX (wa : WA) : WI := fun ρ Q => wa ρ fun ss ρ1 => match ss with
  | [.fz (.tuple ds)] => Q (enumD ds) ρ1
  | [.fz (.list ds)] => Q (enumD ds) ρ1
  | _ => False
theorem di_enumX {X : Cx} {pos : Pos} {e : Expr} {ta : TA} {wa : WA} {p tpos : Pos} {elts : List Expr} {kk : Nat} (hg : Gl X "enumerate") (hm : X.mg "enumerate" = none) (ha : DA X [e] ta wa) (hs : starEach [e] X.env = [(false, eval e X.env)] := by rfl) :
    DI X (.Tuple elts kk tpos) (.Call (.Name "enumerate" p) [e] [] pos) (iEnumX X.K ta) (wEnumX wa) := by
  refine ⟨pi_enumX hg hm ha.pa hs, fun ρ Q w O L σ H I R q => ?_⟩
  refine ha.ev ρ _ w O L σ H I _ fun L1 vs H1 ss ρ1 g1 I1 a1 h1 => ?_
  split at h1
  · cases a1 with
    | cons x r =>
      cases r
      obtain ⟨a, xs, rfl, s1, d1⟩ := dp_tupI x
      exact ⟨a, xs, rfl, .inr ⟨sqt_mono less_sub s1, q L1 _ H1 _ ρ1 g1 I1 (itok_enumT s1 d1) h1⟩⟩
  · cases a1 with
    | cons x r =>
      cases r
      obtain ⟨a, xs, rfl, s1, d1⟩ := dp_listI x
      exact ⟨a, xs, rfl, .inl ⟨sql_mono less_sub s1, q L1 _ H1 _ ρ1 g1 I1 (itok_enumL s1 d1) h1⟩⟩
  · exact h1.elim
end DC

set_option Elab.async false
set_option linter.all false
set_option maxRecDepth 100000
set_option maxHeartbeats 1000000
/-! more readings of walks -/
namespace DC
open PySem PySem.Spec PyProof.Rows L2
theorem lcIn_map {α : Type} {wg : WG} {wt : WT} {we : WE} {vs : List Nat} {ρ : List Sl} {N : List PyData → List Sl → Prop} (enc : α → PyData) (f : α → Option PyData) {xs : List α} {acc : List PyData} (h : ∀ a ∈ xs, Turn1 wg wt we vs ρ (enc a) (f a)) (q : N (acc ++ xs.filterMap f) ρ) : lcIn wg wt we vs N (xs.map enc) acc ρ := by
  induction xs generalizing acc with
  | nil => simpa using q
  | cons a r ih =>
    have := h a List.mem_cons_self (fun o' ρ' => lcIn wg wt we vs N (r.map enc) (acc ++ o'.toList) ρ') (ih (fun e he => h e (List.mem_cons_of_mem _ he)) (by
      rw [List.append_assoc]
      cases e : f a with
      | none => simpa [List.filterMap_cons, e] using q
      | some y => simpa [List.filterMap_cons, e] using q))
    simp only [Option.toList, List.append_nil] at this
    exact this
/-- one outer turn of a comprehension of two for: it gives es -/
def Turn2 (wg : WG) (wt : WT) (wI1 : WI) (wg1 : WG) (wt1 : WT) (we : WE) (vs vs1 : List Nat) (ρ : List Sl) (d : PyData) (F : List PyData) : Prop := ∀ (acc : List PyData) (M : List PyData → List Sl → Prop), M (acc ++ F) ρ → wg d (wipeS ρ vs) fun ρ2 => wt ρ2 fun b ρ3 =>
  if b = true then wI1 ρ3 fun es ρ4 => es.length ≤ 1000 ∧ lcIn wg1 wt1 we vs1 (fun acc2 ρ5 => M acc2 (backS ρ ρ5 vs)) es acc ρ4
  else M acc (backS ρ ρ3 vs)
theorem lcOut_map {α : Type} {wg : WG} {wt : WT} {wI1 : WI} {wg1 : WG} {wt1 : WT} {we : WE} {vs vs1 : List Nat} {ρ : List Sl} {Q : Rs → List Sl → Prop} (enc : α → PyData) (F : α → List PyData) {xs : List α} {acc : List PyData}
    (h : ∀ a ∈ xs, Turn2 wg wt wI1 wg1 wt1 we vs vs1 ρ (enc a) (F a)) (q : Q (.nl (acc ++ xs.flatMap F)) ρ) : lcOut wg wt wI1 wg1 wt1 we vs vs1 Q (xs.map enc) acc ρ := by
  induction xs generalizing acc with
  | nil => simpa using q
  | cons a r ih =>
    refine h a List.mem_cons_self acc (fun acc2 ρ' => lcOut wg wt wI1 wg1 wt1 we vs vs1 Q (r.map enc) acc2 ρ') (ih (fun e he => h e (List.mem_cons_of_mem _ he)) ?_)
    rw [List.append_assoc, ← List.flatMap_cons]
    exact q
/-! ### the least row of ints -/
theorem dataLt_rows (a b : List Int) : PySem.W.dataLt (intsT a) (intsT b) = decide (a < b) := by
  unfold intsT
  rw [PySem.W.dataLt_tuple]
  exact PySem.W.dataLt_ints a b
theorem minD_rows (x : List Int) : ∀ xs : List (List Int), PySem.W.minD (intsT x) (xs.map intsT) = intsT (xs.foldl (fun a y => if y < a then y else a) x) := by
  intro xs
  unfold PySem.W.minD
  induction xs generalizing x with
  | nil => rfl
  | cons y r ih =>
    rw [List.map_cons, List.foldl_cons, List.foldl_cons, dataLt_rows]
    by_cases h : y < x
    · rw [if_pos (by simpa using h), if_pos h]; exact ih y
    · rw [if_neg (by simpa using h), if_neg h]; exact ih x
theorem fold_least (xs : List (List Int)) : ∀ x : List Int, (xs.foldl (fun a y => if y < a then y else a) x) ∈ x :: xs ∧ ∀ y ∈ x :: xs, (xs.foldl (fun a y => if y < a then y else a) x) ≤ y := by
  induction xs with
  | nil => intro x; simp
  | cons z r ih =>
    intro x
    rw [List.foldl_cons]
    by_cases h : z < x
    · rw [if_pos h]
      obtain ⟨h1, h2⟩ := ih z
      refine ⟨List.mem_cons_of_mem _ h1, fun y hy => ?_⟩
      rcases List.mem_cons.mp hy with rfl | hy
      · exact List.le_trans (h2 z List.mem_cons_self) (List.le_of_lt h)
      · exact h2 y hy
    · rw [if_neg h]
      obtain ⟨h1, h2⟩ := ih x
      refine ⟨?_, fun y hy => ?_⟩
      · rcases List.mem_cons.mp h1 with e | e
        · rw [e]; exact List.mem_cons_self
        · exact List.mem_cons_of_mem _ (List.mem_cons_of_mem _ e)
      · rcases List.mem_cons.mp hy with rfl | hy
        · exact h2 y List.mem_cons_self
        · rcases List.mem_cons.mp hy with rfl | hy
          · exact List.le_trans (h2 x List.mem_cons_self) (List.not_lt.mp h)
          · exact h2 y (List.mem_cons_of_mem _ hy)
theorem alike_rows (l : List (List Int)) : PySem.W.AlikeAll (l.map intsT) := by
  refine ⟨fun x hx y hy => ?_, fun x hx e => ?_⟩
  · obtain ⟨a, _, rfl⟩ := List.mem_map.mp hx
    obtain ⟨b, _, rfl⟩ := List.mem_map.mp hy
    simp only [intsT, PySem.W.alike]
    exact PySem.W.alike_ints a b
  · obtain ⟨a, _, rfl⟩ := List.mem_map.mp hx
    cases e
theorem depth_rows (l : List (List Int)) : PyData.depthAll (l.map intsT) ≤ 60 := by
  refine depthAll_le fun x hx => ?_
  obtain ⟨a, _, rfl⟩ := List.mem_map.mp hx
  have := PySem.W.depth_ints a
  unfold intsT
  simp only [PyData.depth]
  omega
theorem atI_last {α : Type} (l : List α) (x : α) : atI (l ++ [x]) (-1) = some x := by
  unfold atI ixN
  rw [if_neg (by decide), if_pos (by simp; omega)]
  simp
  have e : (-1 + ((l.length : Int) + 1)).toNat = l.length := by omega
  rw [e]
  simp
/-! ### a list that is not changed any more is let stay at once -/
@[simp] def frzS (ρ : List Sl) (i : Nat) : List Sl := match ρ[i]? with
  | some (.ow ds) => ρ.set i (.fz (.list ds))
  | _ => ρ
@[simp] def wZ (i : Nat) (w : WS) : WS := fun D ρ => w { D with nx := fun ρ' => D.nx (frzS ρ' i) } ρ
theorem DS.z (i : Nat) {X : Cx} {st : Stmt} {ts : TS} {w : WS} (h : DS X st ts w) : DS X st ts (wZ i w) := by
  refine ⟨h.ps, fun ρ D hw O L0 L σ H0 H g I E l => h.ev ρ _ hw O L0 L σ H0 H g I E ⟨fun L' σ' H' ρ' g' I' hn => ?_, l.rt, l.bk, l.ct⟩⟩
  unfold frzS at hn
  cases e : ρ'[i]? with
  | none => simp only [e] at hn; exact l.nx L' σ' H' ρ' g' I' hn
  | some s =>
    cases s with
    | ow ds =>
      simp only [e] at hn
      obtain ⟨b, L2, h1, I2, sub, hd⟩ := I'.freeze e
      exact l.nx L2 σ' H' _ (g'.trans ⟨fun _ _ z _ => z, fun c z => .inl (sub c z), fun _ z => z⟩) I2 hn
    | _ => simp only [e] at hn; exact l.nx L' σ' H' ρ' g' I' hn
end DC

set_option Elab.async false
set_option linter.all false
set_option maxRecDepth 100000
set_option maxHeartbeats 3200000
/-! set(xs) of ints, some of them more than once: sorted, counted. -/
namespace DC
open PySem PySem.Spec PyProof.Rows L2
theorem len_of_sub {α : Type} [BEq α] [LawfulBEq α] : ∀ {l r : List α}, l.Nodup → (∀ x ∈ l, x ∈ r) → l.length ≤ r.length
  | [], _, _, _ => Nat.zero_le _
  | a :: t, r, nd, h => by
    have ha := h a List.mem_cons_self
    have := len_of_sub (l := t) (r := r.erase a) (List.nodup_cons.mp nd).2 fun x hx => by
      have hne : x ≠ a := fun e => (List.nodup_cons.mp nd).1 (e ▸ hx)
      exact (List.mem_erase_of_ne hne).mpr (h x (List.mem_cons_of_mem _ hx))
    rw [List.length_erase_of_mem ha] at this
    have hp := List.length_pos_of_mem ha
    simp only [List.length_cons]
    omega
theorem setR_few {w : World} {h : Heap} {a : Addr} {S : Int → Bool} {n : Nat} (R : SetR w h a S n) {U : List Int} (hU : ∀ k, S k = true → k ∈ U) : n ≤ U.length := by
  obtain ⟨o, es, ep, t, _, _, _, _, nd, hm, _, _, hn, _⟩ := R
  have := len_of_sub nd fun k hk => hU k ((hm k).mpr hk)
  rw [List.length_map, Array.length_toList] at this
  omega
section
variable {P : Program} {w : World} {A : Around} {E : Value → Shared → Prop} {s : Shared}
theorem upd_ints {I : Addr} {fp wr : List Addr} {G : Array GenState → Array GenState → Prop} {n : Nat} {Pv : Nat → Value → Prop} {St : Nat → Shared → Prop} {R : Result → Shared → Prop}
    (W : WalksS P w A.in1 I fp wr G n Pv St) (S : Addr) (hSf : S ∉ fp) (ns U : List Int) (hn : n = ns.length) (hU : ∀ k ∈ ns, k ∈ U) (few : U.length ≤ 4000) (hval : ∀ i v, Pv i v → ∃ k t, ns[i]? = some k ∧ v = .int k t) :
    ∀ (k i : Nat) (s : Shared), n - i = k → i ≤ n → St i s → (∃ c, SetR w s.heap S (fun j => decide (j ∈ ns.take i)) c) →
      (∀ s' c, Moved (S :: wr) G s s' → SetR w s'.heap S (fun j => decide (j ∈ ns)) c → R (.ok (.ret .none)) s') →
      codeAny (model P w) A (.builtin "set.update.loop" ⟨[.ref S, .ref I], []⟩) R s := by
  have hSw : S ∉ wr := fun h => hSf (W.sub _ h)
  have hsub : ∀ b ∈ wr, b ∈ S :: wr := fun b hb => List.mem_cons_of_mem _ hb
  intro k
  induction k with
  | zero =>
    intro i s e hi hst ⟨c, hS⟩ hR
    obtain rfl : i = n := by omega
    refine codeAny_builtin F.entry_set_update_loop ?_
    rw [Around.under_plainId F.plain_set_update_loop _]
    show wpAny _ A.in1 (pyNext (.ref I) >>= _) _ _ s
    refine wpAny_bind (W.done s _ _ hst fun s' hm => ?_)
    show wpAny _ A.in1 (ret Value.none) _ _ s'
    rw [List.take_of_length_le (by omega)] at hS
    exact wpAny_pure (hR s' c (hm.mono hsub) (hS.at fun o e => hm.heap S o hSw e))
  | succ k ih =>
    intro i s e hi hst ⟨c, hS⟩ hR
    have hlt : i < n := by omega
    refine codeAny_builtin F.entry_set_update_loop ?_
    rw [Around.under_plainId F.plain_set_update_loop _]
    show wpAny _ A.in1 (pyNext (.ref I) >>= _) _ _ s
    refine wpAny_bind (W.item i s _ _ hlt hst fun v s' hP hst' hm => ?_)
    obtain ⟨z, t, hz, rfl⟩ := hval i v hP
    have hS2 : SetR w s'.heap S (fun j => decide (j ∈ ns.take i)) c := hS.at fun o e => hm.heap S o hSw e
    have hc : c ≤ U.length := setR_few hS2 fun q hq => hU q (List.mem_of_mem_take (of_decide_eq_true hq))
    have hsc : c + 1 < scanBound := by unfold scanBound; omega
    show wpAny _ A.in1 (holding [Value.int z t] (setAdd S (.int z t)) >>= _) _ _ s'
    refine wpAny_bind (wpAny_holding ?_)
    unfold setAdd
    refine wpAny_holding ?_
    refine wpAny_bind ((intKind P w).pyHash (k := z) (intKind_is _ _ _ _) ?_)
    refine setR_add_hashed (s := { s' with toks := s'.toks + 1 }) hS2 hsc fun h' hsb hS3 => ?_
    have hS4 : SetR w h' S (fun j => decide (j ∈ ns.take (i + 1))) (if decide (z ∈ ns.take i) = true then c else c + 1) := hS3.congr fun j => by
      rw [List.take_add_one, hz]
      simp [List.mem_append]
    refine wpAny_pure ⟨plainId_quiet F.plain_set_update_loop _, ih (i + 1) _ (by omega) hlt (W.frame _ s' _ _ hst' (Nat.le_succ _) fun b hb o e => ?_) ⟨_, hS4⟩ fun s2 c2 hm2 hS5 => ?_⟩
    · rw [hsb.2 b fun q : b = S => hSf (by rw [← q]; exact hb)]
      exact e
    · refine hR s2 c2 (Moved.trans W.gtrans ((hm.mono hsub).then_heap (Nat.le_succ _) fun b o hb e => ?_) hm2) hS5
      rw [hsb.2 b fun q : b = S => hb (by rw [q]; exact List.mem_cons_self)]
      exact e
/-- a list's or a tuple's object -/
def SeqOb (T : String) (h : Heap) (l : Addr) (items : Array Value) : Prop := ∃ o, h.get? l = some o ∧ o.cls = .type T ∧ ∃ n, o.data = .seq items n
/-- what is walked over as a list is -/
structure Src (P : Program) (w : World) (T TI : String) (l : Addr) (items : Array Value) : Prop where
  sub1 : isSubtype (.type T) (.type "set") = pure false
  sub2 : isSubtype (.type T) (.type "frozenset") = pure false
  ne : (Value.type T == Value.type "dict") = false
  iter : ∀ {A : Around} {E : Value → Shared → Prop} {Q : Value → Shared → Prop} {s : Shared}, SeqOb T s.heap l items → Q (.ref s.heap.objs.size) { s with heap := s.heap.push { cls := .type TI, data := .fields #[.ref l, .int 0 0] } } → wpAny (model P w) A (pyIter (.ref l)) Q E s
  walk : ∀ {A : Around} (I : Addr), A.handled = none → l ≠ I → ∃ (Pv : Nat → Value → Prop) (St : Nat → Shared → Prop), WalksS P w A I [I, l] [I] (fun a b => b = a) items.size Pv St ∧ (∀ i v, Pv i v → items[i]? = some v) ∧
    ∀ s : Shared, s.heap.get? I = some { cls := .type TI, data := .fields #[.ref l, .int 0 0] } → SeqOb T s.heap l items → St 0 s
theorem call_set_ints {T TI : String} {l : Addr} {items : Array Value} (src : Src P w T TI l items) (ns U : List Int) {Q : Value → Shared → Prop} (hh : A.handled = none) (hl : SeqOb T s.heap l items) (hit : IntsAre items.toList ns) (hU : ∀ k ∈ ns, k ∈ U) (few : U.length ≤ 4000)
    (h : ∀ (h2 : Heap) (tk c : Nat), SetR w h2 s.heap.objs.size (fun j => decide (j ∈ ns)) c → Kpt s.heap h2 → Q (.ref s.heap.objs.size) { s with heap := h2, toks := tk }) :
    wpAny (model P w) A (call (.type "set") [.ref l]) Q E s := by
  have hisz : items.size = ns.length := by
    have q := IntsAre.length hit
    rw [Array.length_toList] at q
    exact q
  obtain ⟨c, tl, hmro⟩ := F.called_set.mro
  have hmade := F.called_set.made
  have hsub := F.called_set.sub
  refine wpAny_call (codeAny_of_tree ?_)
  show wpAny _ _ (callAny (.type "set") _) _ _ _
  refine wpAny_pure ⟨Code.quiet_builtin _ (by decide +kernel), codeAny_builtin F.entry_type_call ?_⟩
  rw [Around.under_plain (weight_type_call_type "set" [.ref l] []) rfl]
  have h1 := F.called_set.notType
  have h2 := F.called_set.canCreate
  have hct := F.typeCall_set_1 (.ref l)
  repeat (any_goals (first | assumption | wp_step))
  refine codeAny_mono (code_set_led1 (.ref l) (E := E) (Q₁ := fun u s1 => u = .ref s.heap.objs.size ∧ s1 = { s with heap := pushS w s.heap }) ⟨rfl, rfl⟩) fun r s1 hr => ?_
  cases r with
  | error e => exact hr
  | ok fl =>
    cases fl with
    | ret u =>
      obtain ⟨rfl, rfl⟩ := hr
      have hS : (pushS w s.heap).get? s.heap.objs.size = some (freshO w) := Heap.get?_push_size _ rfl
      have hT : Shared.TypeIs { s with heap := pushS w s.heap } (.ref s.heap.objs.size) "set" := ⟨_, hS, rfl⟩
      have hli := F.called_set.init.lookup
      have hbi := F.called_set.init.bind (.ref s.heap.objs.size)
      repeat (any_goals (first | assumption | wp_step))
      refine codeAny_mono (codeAny_call_builtin (R := wants (fun r s2 => r = .none ∧ ∃ h2 tk c, s2 = { s with heap := h2, toks := tk } ∧ SetR w h2 s.heap.objs.size (fun j => decide (j ∈ ns)) c ∧ Kpt s.heap h2) E)
        F.called_set.init.plain F.entry_set_init (check_set_init_1 hT ?_)) fun r2 s2 hr2 => ?_
      · obtain ⟨ol, hol, hcl, nl, hdl⟩ := hl
        obtain ⟨ocls, odict, odata, oslots⟩ := ol
        dsimp only at hcl hdl
        subst hcl
        subst hdl
        have hol2 : (pushS w s.heap).get? l = some { cls := .type T, dict := odict, data := .seq items nl, slots := oslots } := Heap.get?_push_of_some _ hol
        have hsls := src.sub1
        have hslf := src.sub2
        have hne := src.ne
        have hl1 : SeqOb T (pushS w s.heap) l items := ⟨_, hol2, rfl, nl, rfl⟩
        unfold Builtin.«set.__init__» noKeywords Builtin.Frozenset.updateFrom
        generalize hPI : pyIter = PI
        wp_walk
        subst hPI
        refine src.iter hl1 ?_
        refine wpAny_bind (wpAny_runValue ?_)
        have hlS : l < s.heap.objs.size := Heap.lt_size hol
        have hh3 : A.in1.in1.in1.handled = none := by simp [hh]
        have sz1 : (pushS w s.heap).objs.size = s.heap.objs.size + 1 := Heap.size_push ..
        have hneI : l ≠ (pushS w s.heap).objs.size := by rw [sz1]; exact Nat.ne_of_lt (Nat.lt_succ_of_lt hlS)
        have hSf : s.heap.objs.size ∉ [(pushS w s.heap).objs.size, l] := by
          rw [sz1]
          simp only [List.mem_cons, List.not_mem_nil, or_false, not_or]
          exact ⟨Nat.ne_of_lt (Nat.lt_succ_self _), Nat.ne_of_gt hlS⟩
        obtain ⟨Pv, St, W, hPv, hSt⟩ := src.walk (A := A.in1.in1.in1) (pushS w s.heap).objs.size hh3 hneI
        have hval : ∀ (i : Nat) (v : Value), items[i]? = some v → ∃ k t, ns[i]? = some k ∧ v = .int k t := fun i v hv => by
          have hi : i < ns.length := by rw [← hisz]; exact (Array.getElem?_eq_some_iff.mp hv).1
          obtain ⟨t, e⟩ := PyProof.Rows.IntsAre.int_at hit i v (by rw [Array.getElem?_toList]; exact hv)
          refine ⟨ns[i], t, List.getElem?_eq_getElem hi, ?_⟩
          rw [e, List.getD_eq_getElem?_getD, List.getElem?_eq_getElem hi] <;> rfl
        refine upd_ints W s.heap.objs.size hSf ns U hisz hU few (fun i v z => hval i v (hPv i v z)) (items.size - 0) 0 _ (by omega) (Nat.zero_le _) (hSt _ (Heap.get?_push_size _ rfl) ⟨_, Heap.get?_push_of_some _ hol2, rfl, nl, rfl⟩) ?hS0 ?hR
        case hS0 => exact ⟨0, setR_new_at (Heap.get?_push_of_some _ hS)⟩
        case hR =>
          intro s3 c3 hm hS3
          obtain ⟨h3, g3, d3, tk, os3⟩ := s3
          obtain rfl : g3 = s.gens := hm.gens
          obtain rfl : d3 = s.drawn := hm.drawn
          obtain rfl : os3 = s.os := hm.os
          show wpAny _ _ _ _ _ _
          refine wpAny_pure ?_
          show wpAny _ _ (ret Value.none) _ _ _
          refine wpAny_pure ⟨rfl, h3, tk, c3, rfl, hS3, fun b o e => ?_⟩
          have hb0 : b < s.heap.objs.size := Heap.lt_size e
          have hb2 : b ≠ (pushS w s.heap).objs.size := by rw [sz1]; exact Nat.ne_of_lt (Nat.lt_succ_of_lt hb0)
          exact hm.heap b o (by simp only [List.mem_cons, List.mem_singleton, List.not_mem_nil, or_false, not_or]; exact ⟨Nat.ne_of_lt hb0, hb2⟩) (Heap.get?_push_of_some _ (Heap.get?_push_of_some _ e))
      · cases r2 with
        | error e => exact hr2
        | ok fl2 =>
          cases fl2 with
          | ret r =>
            obtain ⟨rfl, h3, tk, c3, rfl, hS3, kp⟩ := hr2
            repeat (any_goals (first | assumption | wp_step))
            exact h _ _ _ hS3 kp
          | _ => exact hr2.elim
    | _ => exact hr.elim
theorem src_list {l : Addr} {items : Array Value} : Src P w "list" "list_iterator" l items where
  sub1 := F.sub_list_set
  sub2 := F.sub_list_frozenset
  ne := by decide
  iter := fun h q => wpAny_pyIter_list h q
  walk := fun I hh hne => ⟨_, _, (Walks.list hh I l hne items).toS, fun i v z => z, fun s h1 h2 => ⟨⟨_, h1, rfl, rfl⟩, h2⟩⟩
theorem src_tup {l : Addr} {items : Array Value} : Src P w "tuple" "tuple_iterator" l items where
  sub1 := F.sub_tuple_set
  sub2 := F.sub_tuple_frozenset
  ne := by decide
  iter := fun h q => wpAny_pyIter_tuple h q
  walk := fun I hh hne => ⟨_, _, (Walks.tuple hh I l hne items).toS, fun i v z => z, fun s h1 h2 => ⟨⟨_, h1, rfl, rfl⟩, h2⟩⟩
end
end DC

set_option Elab.async false
set_option linter.all false
set_option maxRecDepth 100000
set_option maxHeartbeats 3200000
/-! set(xs) of ints, some of them more than once: sorted, counted. -/
namespace DC
open PySem PySem.Spec PyProof.Rows L2
theorem setR_len {w : World} {h : Heap} {a : Addr} {S : Int → Bool} {n : Nat} (R : SetR w h a S n) {L : List Int} (nd : L.Nodup) (hL : ∀ k, k ∈ L ↔ S k = true) : n = L.length := by
  obtain ⟨o, es, ep, t, _, _, _, _, nd2, hm, _, _, hn, _⟩ := R
  have p : (es.toList.map keyOf).Perm L := (List.perm_ext_iff_of_nodup nd2 nd).mpr fun k => by rw [hL, hm]
  have := p.length_eq
  rw [List.length_map, Array.length_toList] at this
  omega
/-- set(xs), xs a list or a tuple of ints, at most 4,000 unlike ones -/
def rSetI (K : PySem.W.Frag) (w : World) : List V → Hp → VK → Prop := fun xs H Q => ∃ (l : Addr) (ns U : List Int), xs = [.ref l] ∧ (SqL K H l (ns.map V.int) ∨ SqT K H l (ns.map V.int)) ∧ (∀ k ∈ ns, k ∈ U) ∧ U.length ≤ 4000 ∧
  ∀ p c, H p = none → c ≤ U.length → (∀ L : List Int, L.Nodup → (∀ k, k ∈ L ↔ k ∈ ns) → c = L.length) → Q (.ref p) (upd H p (SetO w p (fun j => decide (j ∈ ns)) c))
theorem cr_setI {X : Cx} (hc : X.calm = true) : CallR X (.type "set") (rSetI X.K X.w) := by
  intro pins s σ H xs us Q I r h
  obtain ⟨l, ns, U, rfl, hl, hU, few, q⟩ := h
  rw [Vals.ref1 r]
  have fin : ∀ (h2 : Heap) (tk c : Nat), SetR X.w h2 s.heap.objs.size (fun j => decide (j ∈ ns)) c → Kpt s.heap h2 → ∃ v' H', Inv X pins σ H' { s with heap := h2, toks := tk } ∧ RelV v' (.ref s.heap.objs.size) ∧ Q v' H' := fun h2 tk c R kp => by
    refine ⟨.ref _, upd H s.heap.objs.size (SetO X.w s.heap.objs.size (fun j => decide (j ∈ ns)) c), I.laid (t' := tk) (fun b u e => kp b u e) (Nat.le_refl _) (setO_new R), rfl, q _ c (I.hok.fresh (Nat.le_refl _)) ?_ ?_⟩
    · exact setR_few R fun k hk => hU k (of_decide_eq_true hk)
    · exact fun L nd hL => setR_len R nd fun k => by rw [hL, decide_eq_true_eq]
  rcases hl with hl | hl
  · obtain ⟨its, rv, pl, hz⟩ := I.list hl
    exact call_set_ints src_list ns U (I.ok.hd hc) pl.isList (by simpa using ints_of_vals rv) hU few fin
  · obtain ⟨its, rv, pl, hz⟩ := I.tuple hl
    exact call_set_ints src_tup ns U (I.ok.hd hc) pl (by simpa using ints_of_vals rv) hU few fin
def tLenSetA (K : PySem.W.Frag) (ta : TE) : TE := fun σ H Q => ta σ H fun x H1 => ∃ (l : Addr) (ns L : List Int), x = .ref l ∧ (SqL K H1 l (ns.map V.int) ∨ SqT K H1 l (ns.map V.int)) ∧ L.Nodup ∧ (∀ k, k ∈ L ↔ k ∈ ns) ∧ L.length ≤ 4000 ∧ Q (.int (L.length : Nat)) H1
theorem pe_lenSetA {X : Cx} {a : Expr} {ta : TE} {p p2 q pos : Pos} (hc : X.calm = true) (hg : Gl X "len") (hm : X.mg "len" = none) (hg2 : Gl X "set") (hm2 : X.mg "set" = none) (ha : PE X a ta)
    (na : starEach [a] X.env = (false, eval a X.env) :: starEach [] X.env) : PE X (.Call (.Name "len" p) [.Call (.Name "set" p2) [a] [] q] [] pos) (tLenSetA X.K ta) := by
  refine ⟨fun pins s σ H Q I h => ?_⟩
  refine Call_ (ld_blt I hg hm boot_len ?_)
  refine callWith_builtin1 (args_cons ?_ rfl) rfl rfl
  refine Call_ (ld_blt I hg2 hm2 boot_set ?_)
  refine callWith_type1 (args_cons (thn (ha.run pins s σ H _ I h) fun v s1 ⟨x, H1, I1, r1, q1⟩ => args_nil ?_) na) na rfl
  obtain ⟨l, ns, L, rfl, sq, nd, hL, few, q1⟩ := q1
  cases r1
  have fin : ∀ (h2 : Heap) (tk c : Nat), SetR X.w h2 s1.heap.objs.size (fun j => decide (j ∈ ns)) c → Kpt s1.heap h2 → wpAny (model X.prog X.w) X.A (call (.builtin "len") [.ref s1.heap.objs.size]) (fun v s2 => ∃ x H2, Inv X pins σ H2 s2 ∧ RelV x v ∧ Q x H2) X.xe { s1 with heap := h2, toks := tk } := fun h2 tk c R kp => by
    have ec := setR_len R nd fun k => by rw [hL, decide_eq_true_eq]
    obtain ⟨o, es, ep, t, ho, hex, hd, _, _, _, _, hf, hn, _⟩ := R
    have I2 : Inv X pins σ H1 { s1 with heap := h2, toks := tk } := I1.kept fun b o e => kp b o e
    refine call_len_set ho hex hd hf (by omega) ⟨.int L.length, H1, I2.tok _, ⟨_, by rw [hn, ec]⟩, q1⟩
  rcases sq with sq | sq
  · obtain ⟨its, rv, pl, hz⟩ := I1.list sq
    exact call_set_ints src_list ns L (I1.ok.hd hc) pl.isList (by simpa using ints_of_vals rv) (fun k hk => (hL k).mpr hk) few fun h2 tk c R kp => args_nil (fin h2 tk c R kp)
  · obtain ⟨its, rv, pl, hz⟩ := I1.tuple sq
    exact call_set_ints src_tup ns L (I1.ok.hd hc) pl (by simpa using ints_of_vals rv) (fun k hk => (hL k).mpr hk) few fun h2 tk c R kp => args_nil (fin h2 tk c R kp)
/-! ### on data -/
@[simp] def wSortedSetI (we : WE) : WE := fun ρ Q => we ρ fun r ρ1 => ∃ ns U : List Int, r.dat.bind seqOf = some (ns.map .int) ∧ (∀ k ∈ ns, k ∈ U) ∧ U.length < 64 ∧ ∀ ms : List Int, ms.Pairwise (· < ·) → (∀ k, k ∈ ms ↔ k ∈ ns) → Q (.nl (ms.map .int)) ρ1
@[simp] def wLenSetI (we : WE) : WE := fun ρ Q => we ρ fun r ρ1 => ∃ ns L : List Int, r.dat.bind seqOf = some (ns.map .int) ∧ L.Nodup ∧ (∀ k, k ∈ L ↔ k ∈ ns) ∧ L.length ≤ 4000 ∧ Q (.fz (.int L.length)) ρ1
theorem bind_some {r : Rs} {es : List PyData} (h : r.dat.bind seqOf = some es) : ∃ d, r.dat = some d ∧ seqOf d = some es := by
  cases e : r.dat with
  | none => rw [e] at h; cases h
  | some d => rw [e] at h; exact ⟨d, rfl, h⟩
theorem de_sortedSetI {X : Cx} {e : Expr} {te : TE} {we : WE} {p p2 pos pos2 : Pos} (hc : X.calm = true) (hg : Gl X "sorted") (hm : X.mg "sorted" = none) (hg2 : Gl X "set") (hm2 : X.mg "set" = none) (he : DE X e te we)
    (hs : starEach [e] X.env = (false, eval e X.env) :: starEach [] X.env := by rfl)
    (hs2 : starEach [.Call (.Name "set" p2) [e] [] pos2] X.env = (false, eval (.Call (.Name "set" p2) [e] [] pos2) X.env) :: starEach [] X.env := by rfl) :
    DE X (.Call (.Name "sorted" p) [.Call (.Name "set" p2) [e] [] pos2] [] pos) (tCB (rSortedSet X.w) (tCons (tCB (rSetI X.K X.w) (tCons te tNil)) tNil)) (wSortedSetI we) := by
  refine ⟨pe_callB (cr_sortedSet hc) hg hm boot_sorted (pa_cons (pe_callTy (cr_setI hc) hg2 hm2 boot_set (pa_cons he.pe pa_nil hs) (by decide) (by decide) hs rfl) pa_nil hs2) (by decide) (by decide) hs2 rfl, fun ρ Q h O L σ H I QV q => ?_⟩
  refine he.ev ρ _ h O L σ H I _ fun L1 v H1 r1 ρ1 g1 R1 h1 => ?_
  obtain ⟨ns, U, hd, hU, h64, h1⟩ := h1
  obtain ⟨d, e1, e2⟩ := bind_some hd
  obtain ⟨a, xs, rfl, s1, al⟩ := dp_seqI (R1.dp e1) e2
  rw [al.intsV] at s1
  refine ⟨a, ns, U, rfl, s1.imp (sql_mono less_sub) (sqt_mono less_sub), hU, by omega, fun b c hb hc1 _ => ?_⟩
  refine ⟨b, _, c, rfl, upd_same, by omega, fun ms z asc hm _ hz => ?_⟩
  have s2 : Same H1 (upd H1 b (SetO X.w b (fun j => decide (j ∈ ns)) c)) := new_same hb
  have s3 : Same H1 (upd (upd H1 b (SetO X.w b (fun j => decide (j ∈ ns)) c)) z (.lst (ms.map V.int))) := fun x o w => new_same hz x o (s2 x o w)
  have hz1 : H1 z = none := by
    by_cases w : z = b
    · rw [w]; exact hb
    · rw [upd_ne w] at hz; exact hz
  have vo : VrOk X.K (O ++ L1) H1 (upd (upd H1 b (SetO X.w b (fun j => decide (j ∈ ns)) c)) z (.lst (ms.map V.int))) (V.ref z) (.nl (ms.map .int)) := ⟨z, _, rfl, hz1, upd_same, DpAll.ints ms⟩
  exact q L1 _ _ (.nl (ms.map .int)) ρ1 (g1.trans (Go.same s3)) ((VrOk.rs R1.en s3 vo).back fun p w => g1.free w) (h1 ms asc fun k => by rw [hm k, decide_eq_true_eq])
theorem de_lenSetI {X : Cx} {e : Expr} {te : TE} {we : WE} {p p2 pos pos2 : Pos} (hc : X.calm = true) (hg : Gl X "len") (hm : X.mg "len" = none) (hg2 : Gl X "set") (hm2 : X.mg "set" = none) (he : DE X e te we)
    (hs : starEach [e] X.env = (false, eval e X.env) :: starEach [] X.env := by rfl) :
    DE X (.Call (.Name "len" p) [.Call (.Name "set" p2) [e] [] pos2] [] pos) (tLenSetA X.K te) (wLenSetI we) := by
  refine ⟨pe_lenSetA hc hg hm hg2 hm2 he.pe hs, fun ρ Q h O L σ H I QV q => ?_⟩
  refine he.ev ρ _ h O L σ H I _ fun L1 v H1 r1 ρ1 g1 R1 h1 => ?_
  obtain ⟨ns, M, hd, nd, hM, few, h1⟩ := h1
  obtain ⟨d, e1, e2⟩ := bind_some hd
  obtain ⟨a, xs, rfl, s1, al⟩ := dp_seqI (R1.dp e1) e2
  rw [al.intsV] at s1
  refine ⟨a, ns, M, rfl, s1.imp (sql_mono less_sub) (sqt_mono less_sub), nd, hM, few, ?_⟩
  exact q L1 _ _ (.fz (.int (M.length : Nat))) ρ1 g1 (.f R1.en (.int _)) h1
end DC

set_option Elab.async false
set_option linter.all false
set_option maxRecDepth 100000
set_option maxHeartbeats 1000000
/-! What the defs that many laws share ask and give, on data. -/
namespace G
open PySem PySem.Spec PyProof.Rows L2 DC

def isInt : PyData → Bool
  | .int _ => true
  | _ => false
def inB (lo hi : Int) : PyData → Bool
  | .int i => decide (lo ≤ i) && decide (i ≤ hi)
  | _ => false
def isRow (lo hi : Int) : PyData → Bool
  | .tuple l => decide (lo ≤ l.length) && decide (l.length ≤ hi)
  | _ => false
def ltI : PyData → PyData → Bool
  | .int i, .int j => decide (i < j)
  | _, _ => false
/-- ties, as pairs -/
def tieD (p : Nat × Nat) : PyData := .tuple [.int (p.1 : Int), .int (p.2 : Int)]
def natsD (l : List Nat) : List PyData := l.map fun i : Nat => .int (i : Int)
def webD (n : Nat) (ts : List (Nat × Nat)) : PyData := .tuple [.int (n : Int), .tuple (ts.map tieD)]
def lexL (p q : Nat × Nat) : Prop := p.1 < q.1 ∨ (p.1 = q.1 ∧ p.2 < q.2)
instance (p q : Nat × Nat) : Decidable (lexL p q) := by unfold lexL; infer_instance
def lexB (p q : Nat × Nat) : Bool := decide (p.1 < q.1 ∨ (p.1 = q.1 ∧ p.2 ≤ q.2))
/-- a web's ties: within, the less first, ascending -/
structure Ok (n : Nat) (ts : List (Nat × Nat)) : Prop where
  n10 : n ≤ 10
  tie : ∀ p ∈ ts, p.1 < p.2 ∧ p.2 < n
  asc : ts.Pairwise lexL
  few : ts.length ≤ 45
def isTieB (n : Int) : PyData → Bool
  | .tuple [a, b] => inB 0 (n - 1) a && inB 0 (n - 1) b && ltI a b
  | _ => false
def tieOf : PyData → Nat × Nat
  | .tuple [.int a, .int b] => (a.toNat, b.toNat)
  | _ => (0, 0)
def isWebB : PyData → Bool
  | .tuple [.int n, .tuple ds] => decide (0 ≤ n) && decide (n ≤ 10) && ds.all (isTieB n) && decide ((ds.map tieOf).Pairwise lexL)
  | _ => false
/-- no list so long that a walk over it has no room -/
def smallW : PyData → Prop
  | .tuple [_, .tuple ds] => ds.length ≤ 1000000
  | _ => True
def tied (ts : List (Nat × Nat)) (v u : Nat) : Bool := decide ((v, u) ∈ ts ∨ (u, v) ∈ ts)
def nbl (ts : List (Nat × Nat)) (left : List Nat) (v : Nat) : List Nat := left.filter (tied ts v)
/-- reached within lot -/
inductive Reach (ts : List (Nat × Nat)) (lot : Nat) (s : Nat) : Nat → Prop
  | here : Reach ts lot s s
  | go {v u : Nat} : Reach ts lot s v → tied ts v u = true → lot.testBit u = true → Reach ts lot s u
def full (n : Nat) : Nat := 2 ^ n - 1
/-- grown by leaves -/
inductive Grown : List Nat → List (Nat × Nat) → Prop
  | one (v : Nat) : Grown [v] []
  | add {L : List Nat} {E : List (Nat × Nat)} {u v : Nat} : Grown L E → u ∈ L → v ∉ L → Grown (v :: L) ((min u v, max u v) :: E)
  | perm {L L' : List Nat} {E E' : List (Nat × Nat)} : Grown L E → L.Perm L' → E.Perm E' → Grown L' E'
structure IsTree (n : Nat) (ts : List (Nat × Nat)) : Prop where
  ok : Ok n ts
  pos : 1 ≤ n
  len : ts.length + 1 = n
  con : ∀ v, v < n → Reach ts (full n) 0 v
  grown : Grown (List.range n) ts
def IsPiece (ts : List (Nat × Nat)) (lot s m : Nat) : Prop := ∀ i, m.testBit i = true ↔ Reach ts lot s i
def bits (m : Nat) : List Nat := (List.range 16).filter fun i => m.testBit i
/-- a mask with some things more -/
def orAll (F : Nat) (xs : List Nat) : Nat := xs.foldl (fun m x => m ||| 2 ^ x) F
open Classical in
/-- the piece of s -/
noncomputable def comp (ts : List (Nat × Nat)) (lot s : Nat) : Nat := orAll 0 ((bits lot).filter fun i => decide (Reach ts lot s i))
open Classical in
/-- the least things of the pieces -/
noncomputable def heads (ts : List (Nat × Nat)) (lot : Nat) : List Nat := (bits lot).filter fun s => decide (∀ r, r < s → lot.testBit r = true → ¬ Reach ts lot r s)
/-- the pieces, by their least things -/
noncomputable def pcs (ts : List (Nat × Nat)) (lot : Nat) : List Nat := (heads ts lot).map (comp ts lot)
def nb (ts : List (Nat × Nat)) (v : Nat) : Nat := ts.foldl (fun m p => if p.1 = v then m ||| 2 ^ p.2 else if p.2 = v then m ||| 2 ^ p.1 else m) 0
def tiesF (n : Nat) (ts : List (Nat × Nat)) : List (Str × PyData) := [("many", .int (n : Int)), ("to", .list ((List.range n).map fun v => .int (nb ts v : Int))), ("whole", .int (full n : Int))]
/-- a way of k ties -/
inductive Wk (ts : List (Nat × Nat)) (a : Nat) : Nat → Nat → Prop
  | here : Wk ts a 0 a
  | go {k u v : Nat} : Wk ts a k u → tied ts u v = true → Wk ts a (k + 1) v
def IsDist (ts : List (Nat × Nat)) (a b k : Nat) : Prop := Wk ts a k b ∧ ∀ j, j < k → ¬ Wk ts a j b
open Classical in
noncomputable def dist (ts : List (Nat × Nat)) (a b : Nat) : Option Nat := if h : ∃ k, IsDist ts a b k then some (Classical.choose h) else none
noncomputable def distD (ts : List (Nat × Nat)) (a b : Nat) : PyData := match dist ts a b with
  | some k => .int (k : Int)
  | none => .none
/-- a feed: three ints, the third the number of draws -/
def Fd (B : Nat) (fs : List PyData) : Prop := ∃ a b c : Int, fs = [.int a, .int b, .int c] ∧ 0 ≤ a ∧ 0 ≤ b ∧ b < 10 ^ 39 + 23 ∧ 0 ≤ c ∧ c ≤ B
def nearD (n : Nat) (ts : List (Nat × Nat)) : List PyData := (List.range n).map fun v => .list (natsD (nbl ts (List.range n) v))

/-! promises -/
def S_is_integer : SPc := fun as Q => match as with
  | [.fz d] => Q (.fz (.bool (isInt d)))
  | _ => False
def S_is_within : SPc := fun as Q => match as with
  | [.fz d, .fz (.int lo), .fz (.int hi)] => Q (.fz (.bool (inB lo hi d)))
  | _ => False
def S_is_row : SPc := fun as Q => match as with
  | [.fz d, .fz (.int lo), .fz (.int hi)] => Q (.fz (.bool (isRow lo hi d)))
  | _ => False
def S_is_rising : SPc := fun as Q => match as with
  | [.fz (.tuple ds)] => ds.length ≤ 1000000 ∧ ((∃ ts : List (Nat × Nat), ds = ts.map tieD ∧ Q (.fz (.bool (decide (ts.Pairwise lexL))))) ∨
    ∃ ns : List Nat, ds = natsD ns ∧ Q (.fz (.bool (decide (ns.Pairwise (· < ·))))))
  | _ => False
def S_is_tie : SPc := fun as Q => match as with
  | [.fz (.int n), .fz d] => Q (.fz (.bool (isTieB n d)))
  | _ => False
def S_is_web_form : SPc := fun as Q => match as with
  | [.fz d] => smallW d ∧ Q (.fz (.bool (isWebB d)))
  | _ => False
def S_need_web : SPc := fun as Q => match as with
  | [.fz d] => ∃ n ts, d = webD n ts ∧ Ok n ts ∧ Q (.fz .none)
  | _ => False
def S_things_of : SPc := fun as Q => match as with
  | [.fz (.int k)] => ∃ m : Nat, k = m ∧ m < 65536 ∧ Q (.fz (.list (natsD (bits m))))
  | _ => False
def S_least_of : SPc := fun as Q => match as with
  | [.fz (.int k)] => ∃ m a : Nat, k = m ∧ m < 65536 ∧ (bits m)[0]? = some a ∧ Q (.fz (.int a))
  | _ => False
def S_size_of : SPc := fun as Q => match as with
  | [.fz (.int k)] => ∃ m : Nat, k = m ∧ m < 65536 ∧ Q (.fz (.int (bits m).length))
  | _ => False
def S_lot_of : SPc := fun as Q => match as with
  | [.fz (.int k)] => ∃ m : Nat, k = m ∧ m < 65536 ∧ Q (.fz (.tuple (natsD (bits m))))
  | _ => False
def S_set_of : SPc := fun as Q => match as with
  | [.fz d] => ∃ l : List Nat, (d = .tuple (natsD l) ∨ d = .list (natsD l)) ∧ l.Nodup ∧ (∀ x ∈ l, x < 16) ∧ Q (.fz (.int (orAll 0 l : Nat)))
  | _ => False
def wMake_Ties (C : Addr) (wa : WA) : WE := fun ρ Q => wa ρ fun as ρ1 => match as with
  | [.fz d] => ∃ n ts, d = webD n ts ∧ Ok n ts ∧ Q (.ob C (tiesF n ts)) ρ1
  | _ => False
def S_Ties_are_tied (C : Addr) : SPc := fun as Q => match as with
  | [.ob C' fs, .fz (.int k), .fz (.int l)] => C' = C ∧ ∃ (n : Nat) (ts : List (Nat × Nat)) (a b : Nat), fs = tiesF n ts ∧ Ok n ts ∧ k = a ∧ l = b ∧ a < n ∧ Q (.fz (.bool (tied ts a b)))
  | _ => False
def S_Ties_piece_of (C : Addr) : SPc := fun as Q => match as with
  | [.ob C' fs, .fz (.int k), .fz (.int l)] => C' = C ∧ ∃ (n : Nat) (ts : List (Nat × Nat)) (s lot : Nat), fs = tiesF n ts ∧ Ok n ts ∧ k = s ∧ l = lot ∧ lot < 2 ^ n ∧ lot.testBit s = true ∧ Q (.fz (.int (comp ts lot s : Nat)))
  | _ => False
def S_Ties_pieces (C : Addr) : SPc := fun as Q => match as with
  | [.ob C' fs, .fz (.int l)] => C' = C ∧ ∃ (n : Nat) (ts : List (Nat × Nat)) (lot : Nat), fs = tiesF n ts ∧ Ok n ts ∧ l = lot ∧ lot < 2 ^ n ∧ Q (.fz (.list (natsD (pcs ts lot))))
  | _ => False
def S_distance (C : Addr) : SPc := fun as Q => match as with
  | [.fz d, .fz (.int k), .fz (.int l)] => ∃ (n : Nat) (ts : List (Nat × Nat)) (a b : Nat), d = webD n ts ∧ Ok n ts ∧ k = a ∧ l = b ∧ a < n ∧ b < n ∧ Q (.fz (distD ts a b))
  | _ => False
def S__law_feed : SPc := fun as Q => match as with
  | [.fz (.list ds), .fz (.int k)] => ∃ ns : List Int, ds = ns.map .int ∧ ns.length ≤ 1000 ∧ 0 ≤ k ∧ k ≤ 1000 ∧ ∀ fs, Fd 0 fs → Q (.nl fs)
  | _ => False
def S__law_draw : SFc := fun fs as Q => match as with
  | [.fz (.int m)] => ∃ B, Fd B fs ∧ 0 < m ∧ m ≤ 1000000 ∧ B ≤ 1000000000 ∧ ∀ (r : Nat) (fs' : List PyData), (r : Int) < m → Fd (B + 1) fs' → Q (.int r) fs'
  | _ => False
def S__law_one : SFc := fun fs as Q => match as with
  | [.fz d] => ∃ B ds, Fd B fs ∧ (d = .list ds ∨ d = .tuple ds) ∧ ds ≠ [] ∧ ds.length ≤ 1000000 ∧ B ≤ 1000000000 ∧ ∀ d fs', d ∈ ds → Fd (B + 1) fs' → Q d fs'
  | _ => False
def S__law_mixed : SFc := fun fs as Q => match as with
  | [.fz d] => ∃ B ds, Fd B fs ∧ (d = .list ds ∨ d = .tuple ds) ∧ ds.length ≤ 1000000 ∧ B ≤ 900000000 ∧ ∀ ds' fs', ds'.Perm ds → Fd (B + ds.length) fs' → Q (.list ds') fs'
  | _ => False
def S__law_tree_ties : SFc := fun fs as Q => match as with
  | [.fz (.int m)] => ∃ B n, Fd B fs ∧ B ≤ 900000000 ∧ m = (n : Nat) ∧ n ≤ 1000 ∧ ∀ (f : Nat → Nat) fs', (∀ i, i < n - 1 → f i < i + 1) → Fd (B + n + 1) fs' → Q (.list ((List.range (n - 1)).map fun i => tieD (f i, i + 1))) fs'
  | _ => False
def S__law_made : SPc := fun as Q => match as with
  | [.fz (.int n), .fz d] => ∃ (k : Nat) (E : List (Nat × Nat)), n = k ∧ (d = .list (E.map tieD) ∨ d = .tuple (E.map tieD)) ∧ E.length ≤ 63 ∧ (∀ p ∈ E, p.1 < 1000 ∧ p.2 < 1000) ∧
    ∀ ts, ts.Pairwise lexL → (∀ p, p ∈ ts ↔ ∃ q ∈ E, q.1 ≠ q.2 ∧ p = (min q.1 q.2, max q.1 q.2)) → Q (.fz (webD k ts))
  | _ => False
def S__law_near : SPc := fun as Q => match as with
  | [.fz d] => ∃ n ts, d = webD n ts ∧ Ok n ts ∧ Q (.nl (nearD n ts))
  | _ => False
def S__law_pieces : SPc := fun as Q => match as with
  | [.fz (.list d), .fz e] => ∃ n ts l, d = nearD n ts ∧ (e = .list (natsD l) ∨ e = .tuple (natsD l)) ∧ Ok n ts ∧ l.Pairwise (· < ·) ∧ (∀ x ∈ l, x < n) ∧ Q (.nl ((pcs ts (orAll 0 l)).map fun m => .tuple (natsD (bits m))))
  | _ => False
def S__law_far : SPc := fun as Q => match as with
  | [.fz (.list d)] => ∃ n ts, d = nearD n ts ∧ Ok n ts ∧ Q (.fz (.list ((List.range n).map fun a => .list ((List.range n).map (distD ts a)))))
  | _ => False
def S_need_tree (C : Addr) : SPc := fun as Q => match as with
  | [.fz d, .fz (.int l)] => ∃ n ts, d = webD n ts ∧ IsTree n ts ∧ l ≤ n ∧ Q (.fz .none)
  | _ => False
def S__law_tree : SFc := fun fs as Q => match as with
  | [.fz (.int m)] => ∃ B, Fd B fs ∧ B ≤ 800000000 ∧ m = 10 ∧ ∀ n ts fs', IsTree n ts → Fd (B + 40) fs' → Q (webD n ts) fs'
  | _ => False
end G

set_option Elab.async false
set_option linter.all false
set_option maxRecDepth 100000
set_option maxHeartbeats 1000000
namespace DC
open PySem PySem.Spec PyProof.Rows L2

/-! ### tuples repeated; lists put together that are owned; a list that is lent to be read -/
@[simp] def rdRepT : D2 := fun d e Q => match d, e with
  | .tuple ds, .int k => (ds ≠ [] ∧ 2 ≤ k ∧ k ≤ 1000 ∧ ds.length ≤ 1000) ∧ Q (.fz (.tuple (List.replicate k.toNat ds).flatten))
  | _, _ => False
theorem lift_repT {K : PySem.W.Frag} : Lift2 K (rRepT K) rdRepT := by
  intro M H x y d e Qd tr hx hy h Q q
  unfold rdRepT at h
  split at h
  · rename_i ds k
    obtain ⟨⟨n1, n2, n3, n4⟩, h⟩ := h
    obtain ⟨a, xs, rfl, s1, a1⟩ := dp_tupI hx
    cases hy
    refine ⟨a, k, xs, rfl, rfl, sqt_mono less_sub s1, fun z => n1 ?_, n2, n3, by rw [a1.len]; exact n4, fun p hp => q _ _ (.fz (.tuple _)) (new_same hp) (new_tup tr hp (dpAll_rep a1 k.toNat)) h⟩
    subst z
    exact List.eq_nil_of_length_eq_zero a1.len.symm
  · exact h.elim
@[simp] def wCat (wa wb : WE) : WE := fun ρ Q => wa ρ fun r1 ρ1 => wb ρ1 fun r2 ρ2 => match r1.dat, r2.dat with
  | some (.list ds), some (.list es) => ds.length + es.length ≤ 1000000 ∧ Q (.nl (ds ++ es)) ρ2
  | _, _ => False
theorem de_cat {X : Cx} {pos : Pos} {a b : Expr} {ta tb : TE} {wa wb : WE} (ha : DE X a ta wa) (hb : DE X b tb wb) : DE X (.BinOp a .Add b pos) (tOp (rCatS X.K) ta tb) (wCat wa wb) := by
  refine ⟨pe_op op_catS ha.pe hb.pe, fun ρ Q h O L σ H I QV q => ?_⟩
  refine ha.ev ρ _ h O L σ H I _ fun L1 v H1 r1 ρ1 g1 R1 h1 => ?_
  refine hb.ev ρ1 _ h1 O L1 σ H1 R1.en _ fun L2 u H2 r2 ρ2 g2 R2 h2 => ?_
  cases e1 : r1.dat with
  | none => simp only [e1] at h2
  | some d =>
    cases e2 : r2.dat with
    | none => simp only [e1, e2] at h2
    | some e =>
      simp only [e1, e2] at h2
      split at h2
      · rename_i ds es z1 z2
        cases z1
        cases z2
        obtain ⟨hz, h2⟩ := h2
        have hx := (R1.dp e1).up (Go.less g2)
        obtain ⟨p, xs, rfl, s1, a1⟩ := dp_listI hx
        obtain ⟨p2, ys, rfl, s2, a2⟩ := dp_listI (R2.dp e2)
        refine ⟨p, p2, xs, ys, rfl, rfl, sql_mono less_sub s1, sql_mono less_sub s2, le_line' (by rw [a1.len, a2.len]; omega), fun c hc => ?_⟩
        exact q L2 _ _ (.nl _) ρ2 ((g1.trans g2).trans (Go.same (new_same hc))) ((VrOk.rs R2.en (new_same hc) (new_lst hc (a1.app a2))).back fun b z => (g1.trans g2).free z) h2
      · exact h2.elim
/-! data without lists -/
mutual
def flD : PyData → Bool
  | .list _ => false
  | .tuple ds => flDs ds
  | .dict _ => false
  | _ => true
def flDs : List PyData → Bool
  | [] => true
  | d :: ds => flD d && flDs ds
end
@[simp] theorem flDs_iff {ds : List PyData} : flDs ds = true ↔ ∀ d ∈ ds, flD d = true := by
  induction ds with
  | nil => simp [flDs]
  | cons a r ih => simp [flDs, ih]
mutual
theorem dp_fl {K : PySem.W.Frag} {H : Hp} {M : List Addr} {a : Addr} {vs : List V} (ha : H a = some (.lst vs)) : ∀ (d : PyData) (v : V), flD d = true → Dp K (less H M) v d → Dp K (less H (a :: M)) v d
  | .none, _, _, h => by cases h; exact .non
  | .bool _, _, _, h => by cases h; exact .bl _
  | .int _, _, _, h => by cases h; exact .int _
  | .str _, _, _, h => by cases h; exact .str _
  | .list ds, _, f, h => by simp [flD] at f
  | .tuple ds, _, f, h => by
    rw [flD] at f
    cases h with
    | tup s al =>
      refine .tup ?_ (dpAll_fl ha ds _ f al)
      refine s.imp (fun r => ?_) id
      have k : ∀ {b : Addr} {o : HO}, less H M b = some o → (∀ ws, o ≠ .lst ws) → less H (a :: M) b = some o := fun {b o} z n => by
        obtain ⟨h1, h2⟩ := less_some z
        rw [less_out]
        · exact h2
        · intro w
          rcases List.mem_cons.mp w with w | w
          · subst w
            rw [ha] at h2
            cases h2
            exact n _ rfl
          · exact h1 w
      exact r.imp (fun z => k z fun _ e => by cases e) (fun ⟨o, z⟩ => ⟨o, k z fun _ e => by cases e⟩)
  | .dict _, _, _, h => by cases h
theorem dpAll_fl {K : PySem.W.Frag} {H : Hp} {M : List Addr} {a : Addr} {vs : List V} (ha : H a = some (.lst vs)) : ∀ (ds : List PyData) (ws : List V), flDs ds = true → DpAll K (less H M) ws ds → DpAll K (less H (a :: M)) ws ds
  | [], _, _, h => by cases h; exact .nil
  | d :: ds, _, f, h => by
    rw [flDs, Bool.and_eq_true] at f
    cases h with
    | cons x y => exact .cons (dp_fl ha d _ f.1 x) (dpAll_fl ha ds _ f.2 y)
end
def flS : Sl → Prop
  | .un => True
  | .fz d => flD d = true
  | .ow ds => flDs ds = true
  | .bw _ ds => flDs ds = true
  | _ => False
theorem less_swap {H : Hp} {O L : List Addr} {a : Addr} : less H (a :: (O ++ L)) = less H (O ++ a :: L) := less_congr fun c => by
  simp only [List.mem_cons, List.mem_append]
  constructor
  · rintro (z | z | z)
    · exact .inr (.inl z)
    · exact .inl z
    · exact .inr (.inr z)
  · rintro (z | z | z)
    · exact .inr (.inl z)
    · exact .inl z
    · exact .inr (.inr z)
theorem SlOk.lend {K : PySem.W.Frag} {O L : List Addr} {H : Hp} {ov : Option V} {a : Addr} {vs : List V} (ha : H a = some (.lst vs)) : ∀ {s : Sl}, flS s → SlOk K (O ++ L) L H ov s → SlOk K (O ++ a :: L) (a :: L) H ov s := by
  intro s f h
  unfold SlOk at h ⊢
  rw [← less_swap]
  cases s with
  | un => exact trivial
  | fz d => obtain ⟨v, h1, h2⟩ := h; exact ⟨v, h1, dp_fl ha _ _ f h2⟩
  | ow ds => obtain ⟨b, ws, h1, h2, h3, h4⟩ := h; exact ⟨b, ws, h1, List.mem_cons_of_mem _ h2, h3, dpAll_fl ha _ _ f h4⟩
  | bw b ds => obtain ⟨ws, h1, h2, h3, h4⟩ := h; exact ⟨ws, h1, List.mem_cons_of_mem _ h2, h3, dpAll_fl ha _ _ f h4⟩
  | od ds => exact f.elim
  | ob C fs => exact f.elim
theorem En.freeze2 {K : PySem.W.Frag} {O L : List Addr} {H : Hp} {σ : L2.St} {ρ : List Sl} {i : Nat} {ds : List PyData} (h : En K O L H σ ρ) (hs : ρ[i]? = some (.ow ds)) :
    ∃ a vs L', σ[i]?.join = some (.ref a) ∧ En K O L' H σ (ρ.set i (.fz (.list ds))) ∧ (∀ b ∈ L', b ∈ L) ∧ a ∉ L' ∧ a ∈ L ∧ H a = some (.lst vs) ∧ DpAll K (less H (O ++ L)) vs ds := by
  obtain ⟨a, vs, h1, h2, h3, h4⟩ := h.at_ i _ hs
  obtain ⟨b, L', k1, I', sub, _⟩ := h.freeze hs
  rw [h1] at k1
  cases k1
  have il : i < ρ.length := (List.getElem?_eq_some_iff.mp hs).1
  have g : Same (less H (O ++ L')) (less H (O ++ L'.filter (· ≠ a))) := less_anti fun b hb => by
    rw [List.mem_append] at hb ⊢
    exact hb.imp id fun q => (List.mem_filter.mp q).1
  refine ⟨a, vs, L'.filter (· ≠ a), h1, ⟨I'.len, fun j t z => ?_, I'.inj, fun b z => I'.tr b ?_, fun b z => I'.dis b (List.mem_filter.mp z).1⟩, fun b z => sub b (List.mem_filter.mp z).1, fun z => by simpa using (List.mem_filter.mp z).2, h2, h3, h4⟩
  · have q := (I'.at_ j t z).frz g
    have nm : ∀ {b : Addr}, Owned t → σ[j]?.join = some (.ref b) → b ∈ L' → b ∈ L'.filter (· ≠ a) := fun {b} o e m => List.mem_filter.mpr ⟨m, by
      have : b ≠ a := fun z' => by
        subst z'
        by_cases hj : j = i
        · subst hj
          rw [List.getElem?_set_self il] at z
          cases z
          exact o
        · rw [List.getElem?_set_ne (Ne.symm hj)] at z
          exact hj (h.inj j i t _ b z hs o trivial e h1)
      simpa using this⟩
    cases t with
    | un => exact trivial
    | fz d => exact q
    | ow es => obtain ⟨b, vs', k1, k2, k3, k4⟩ := q; exact ⟨b, vs', k1, nm trivial k1 k2, k3, k4⟩
    | bw b es => obtain ⟨vs', k1, k2, k3, k4⟩ := q; exact ⟨vs', k1, nm trivial k1 k2, k3, k4⟩
    | od es => obtain ⟨b, vs', k1, k2, k3, k4⟩ := q; exact ⟨b, vs', k1, nm trivial k1 k2, k3, k4⟩
    | ob C fs => exact q
  · rw [List.mem_append] at z ⊢
    exact z.imp id fun q => (List.mem_filter.mp q).1
/-- the list of slot i is lent while an expression runs that tells no list -/
@[simp] def wHold (i : Nat) (we : WE) : WE := fun ρ Q => match ρ[i]? with
  | some (.ow ds) => we (ρ.set i (.fz (.list ds))) fun r ρ1 => match r with
    | .fz d => flD d = true ∧ ρ1[i]? = some (.fz (.list ds)) ∧ (∀ j s, j ≠ i → ρ1[j]? = some s → flS s ∨ (¬ Owned s ∧ ρ[j]? = some s)) ∧ Q (.fz d) (ρ1.set i (.ow ds))
    | _ => False
  | _ => False
theorem de_hold (i : Nat) {X : Cx} {e : Expr} {te : TE} {we : WE} (he : DE X e te we) : DE X e te (wHold i we) := by
  refine ⟨he.pe, fun ρ Q h O L σ H I QV q => ?_⟩
  unfold wHold at h
  split at h
  · rename_i ds e0
    obtain ⟨a, vs, L0, h1, I0, sub, na, ma, hal, hd⟩ := I.freeze2 e0
    have hO : a ∉ O := I.dis a ma
    have il : i < ρ.length := (List.getElem?_eq_some_iff.mp e0).1
    refine he.ev _ _ h O L0 σ H I0 _ fun L1 v H1 r1 ρ1 g1 R1 h2 => ?_
    split at h2
    · rename_i d
      obtain ⟨f1, f2, f3, h2⟩ := h2
      obtain ⟨I1, hv⟩ := R1
      have ha1 : H1 a = some (.lst vs) := g1.keep a _ hal na
      have n1 : a ∉ L1 := fun z => by
        rcases g1.gr a z with z | z
        · exact na z
        · rw [hal] at z; cases z
      have sm : Same (less H (O ++ L)) (less H1 (a :: (O ++ L1))) := fun b o z => by
        obtain ⟨k1, k2⟩ := less_some z
        rw [List.mem_append] at k1
        rw [less_out]
        · exact g1.keep b o k2 fun w => k1 (.inr (sub b w))
        · intro w
          rcases List.mem_cons.mp w with w | w
          · subst w; exact k1 (.inr ma)
          · rcases List.mem_append.mp w with w | w
            · exact k1 (.inl w)
            · rcases g1.gr b w with w | w
              · exact k1 (.inr (sub b w))
              · rw [k2] at w; cases w
      have il1 : i < ρ1.length := (List.getElem?_eq_some_iff.mp f2).1
      have I2 : En X.K O (a :: L1) H1 σ (ρ1.set i (.ow ds)) := by
        refine ⟨by rw [List.length_set]; exact I1.len, fun j t z => ?_, fun j k t u b z1 z2 o1 o2 e1 e2 => ?_, fun b z => ?_, fun b z w => ?_⟩
        · by_cases hj : j = i
          · subst hj
            rw [List.getElem?_set_self il1] at z
            cases z
            refine ⟨a, vs, h1, List.mem_cons_self, ha1, ?_⟩
            rw [← less_swap]
            exact hd.up sm
          · rw [List.getElem?_set_ne (Ne.symm hj)] at z
            rcases f3 j t hj z with f3 | ⟨f3, f4⟩
            · exact (I1.at_ j t z).lend ha1 f3
            · have b := I.at_ j t f4
              unfold SlOk at b ⊢
              rw [← less_swap]
              cases t with
              | un => exact trivial
              | fz d => obtain ⟨v, k1, k2⟩ := b; exact ⟨v, k1, k2.up sm⟩
              | ob C fs => obtain ⟨v, k1, k2⟩ := b; exact ⟨v, k1, k2.up sm⟩
              | ow ds => exact absurd trivial f3
              | bw b ds => exact absurd trivial f3
              | od ds => exact absurd trivial f3
        · have own : ∀ {j : Nat} {t : Sl}, ρ1[j]? = some t → Owned t → σ[j]?.join = some (.ref a) → False := fun {j t} z o e => by
            have q := I1.at_ j t z
            rw [e] at q
            cases t with
            | un => exact o
            | fz d => exact o
            | ow ds => obtain ⟨b, _, q1, q2, _⟩ := q; cases q1; exact n1 q2
            | bw b ds => obtain ⟨_, q1, q2, _⟩ := q; cases q1; exact n1 q2
            | od ds => obtain ⟨b, _, q1, q2, _⟩ := q; cases q1; exact n1 q2
            | ob C fs => exact o
          by_cases hj : j = i <;> by_cases hk : k = i
          · rw [hj, hk]
          · subst hj
            rw [h1] at e1
            cases e1
            rw [List.getElem?_set_ne (Ne.symm hk)] at z2
            exact (own z2 o2 e2).elim
          · subst hk
            rw [h1] at e2
            cases e2
            rw [List.getElem?_set_ne (Ne.symm hj)] at z1
            exact (own z1 o1 e1).elim
          · rw [List.getElem?_set_ne (Ne.symm hj)] at z1
            rw [List.getElem?_set_ne (Ne.symm hk)] at z2
            exact I1.inj j k t u b z1 z2 o1 o2 e1 e2
        · rcases List.mem_append.mp z with z | z
          · exact I1.tr b (List.mem_append_left _ z)
          · rcases List.mem_cons.mp z with z | z
            · subst z; rw [ha1]; simp
            · exact I1.tr b (List.mem_append_right _ z)
        · rcases List.mem_cons.mp z with z | z
          · subst z; exact hO w
          · exact I1.dis b z w
      refine q (a :: L1) v H1 (.fz d) _ ⟨fun b o z w => g1.keep b o z fun y => w (sub b y), fun b z => ?_, g1.st⟩ ⟨I2, ?_⟩ h2
      · rcases List.mem_cons.mp z with z | z
        · subst z; exact .inl ma
        · exact (g1.gr b z).imp (sub b) id
      · rw [← less_swap]
        exact dp_fl ha1 _ _ f1 hv
    · exact h2.elim
  · exact h.elim
theorem dt_hold (i : Nat) {X : Cx} {e : Expr} {te : TE} {w0 : WT} {we : WE} (h1 : DT X e (tTest te) w0) (h2 : DE X e te we) : DT X e (tTest te) (wTest (wHold i we)) := ⟨h1.pt, ev_test (de_hold i h2).ev⟩
/-! ### a def without a list that is handed in to be changed: a list of its own is new -/
structure DSs0 (X : Cx) (st : List Stmt) (ts : TS) (w : WS) : Prop where
  ps : PSs X st ts
  ev : ∀ ρ D, w D ρ → ∀ (O L : List Addr) (σ : L2.St) (H0 H : Hp), Go [] H0 L H → En X.K O L H σ ρ → ∀ E : Ends, Link X.K O [] H0 D E → ts E σ H
@[simp] def wRetO (i : Nat) : WS := fun D ρ => match ρ[i]? with
  | some (.ow ds) => D.rt (.nl ds) (ρ.set i .un)
  | _ => False
theorem ds_retO (i : Nat) {X : Cx} {x : Str} {p2 pos : Pos} (hN : X.N[i]? = some x := by rfl) (hv : Vis X.env.scope x := by first | exact Or.inl rfl | exact Or.inr (Or.inl rfl) | exact Or.inr (Or.inr rfl)) (hd : (x == ("__debug__" : Str)) = false := by decide)
    (hcd : (x == ("__classdict__" : Str)) = false := by decide) : DSs0 X [.Return (some (.Name x p2)) pos] (tRet (tVar i)) (wRetO i) := by
  refine ⟨pss_one (ps_ret (pe_var hN hv hd hcd)), fun ρ D h O L σ H0 H g I E l => ?_⟩
  unfold wRetO at h
  split at h
  · rename_i ds e
    obtain ⟨a, L', vs, k1, k2, k3, k4, k5, k6, k7⟩ := I.give e
    refine ⟨_, join_some k1, ?_⟩
    have g' : Go L H L' H := ⟨fun _ _ z _ => z, fun c z => .inl (k5 c z), fun _ z => z⟩
    have q : H0 a = none := (g.gr a k2).elim (fun z => by cases z) id
    exact l.rt L' σ _ H (.nl ds) _ (g.trans g') ⟨a, vs, rfl, q, k3, k4, k6, k7⟩ h
  · exact h.elim
theorem dss_cons0 {X : Cx} {st : Stmt} {rest : List Stmt} {t u : TS} {w wu : WS} (h1 : DS X st t w) (h2 : DSs0 X rest u wu) : DSs0 X (st :: rest) (tSeq t u) (wSeq w wu) :=
  ⟨pss_cons h1.ps h2.ps, fun ρ D h O L σ H0 H g I E l => h1.ev ρ _ h O [] L σ H0 H g I _ ⟨fun L1 σ1 H1 ρ1 g1 I1 q => h2.ev ρ1 D q O L1 σ1 H0 H1 g1 I1 E l, l.rt, l.bk, l.ct⟩⟩
section
variable {P : Program} {w : World} {K : PySem.W.Frag} {mg : Str → Option Value} {base : Heap} {name qual : Str} {params : Arguments} {body : List Stmt} {scope : Scope} {f : Addr} {fd : FuncData} {N ps : List Str} {k : Nat}
theorem okP0 {S : SPc} (F : FunD K name qual params body scope [] [] f fd) (sc : FnScope N ps scope) (hl : ∀ as Q, S as Q → as.length = ps.length)
    (hbody : ∀ (cdv : Value) (A : Around) (outer : List Env) (s : Shared) (H : Hp), A.guards = some [] → Room k (A.deeper (envOfC qual scope s.heap.objs.size f cdv)) →
      ∃ t w', DSs0 (cxOf CX0 P w K mg base N qual scope f cdv A outer s H E0) body t w' ∧ ∀ as Q, S as Q → w' ⟨fun _ => Q (.fz .none), fun r _ => Q r, fun _ => False, fun _ => False⟩ (entry N as)) : FnG P w K mg base (k + 1) f fd ps (spP K S) := by
  refine fn_ofG F sc (fun vs H Q E ⟨M, as, Qd, _, h2, h3, _⟩ => h2.len.trans (hl as Qd h3)) fun cdv A outer s H vs Q hg hr ⟨M, as, Qd, tr, ha, hS, q⟩ => ?_
  obtain ⟨t, w', D, hw⟩ := hbody cdv A outer s H hg hr
  refine ⟨t, D.ps, D.ev _ _ (hw as Qd hS) M [] (start N vs) H H Go.refl (en_start tr ha) _ ⟨fun L σ H' ρ g I h => ?_, fun L σ v H' r ρ g R h => ?_, fun _ _ _ _ _ _ h => h, fun _ _ _ _ _ _ h => h⟩⟩
  · exact q .non H' (.fz .none) (fun b o z => g.keep b o z (by simp)) (show Dp K _ _ _ from .non) h
  · refine q v H' r (fun b o z => g.keep b o z (by simp)) ?_ h
    have an : Same (less H' (M ++ L)) (less H' M) := less_anti fun a z => List.mem_append_left _ z
    cases r with
    | fz d => exact R.2.up an
    | ob C fs => exact R.2.up an
    | nl ds =>
      obtain ⟨p, vs, h1, h2, _, _, h4, h5⟩ := R
      exact ⟨p, vs, h1, h2, h4, h5.up (less_anti fun a z => by
        rw [List.mem_cons] at z ⊢
        exact z.imp id (List.mem_append_left _))⟩
    | nd ds =>
      obtain ⟨p, vs, h1, h2, _, _, h4, h5⟩ := R
      exact ⟨p, vs, h1, h2, h4, KvAll.up (less_anti fun a z => by
        rw [List.mem_cons] at z ⊢
        exact z.imp id (List.mem_append_left _)) h5⟩
end
end DC

set_option Elab.async false
set_option linter.all false
set_option maxRecDepth 100000
set_option maxHeartbeats 1000000
/-! webs of drawn families: what is asked and given -/
namespace G
open PySem PySem.Spec PyProof.Rows L2 DC
/-- all pairs of so many things, the first less -/
def pairsL (n : Nat) : List (Nat × Nat) := (List.range n).flatMap fun o => (List.range o).map fun i => (i, o)
def Wi (n : Nat) (E : List (Nat × Nat)) : Prop := ∀ p ∈ E, p.1 < n ∧ p.2 < n
def S__law_pairs : SPc := fun as Q => match as with
  | [.fz (.int m)] => ∃ n : Nat, m = n ∧ n ≤ 1000 ∧ Q (.nl ((pairsL n).map tieD))
  | _ => False
def S__law_shared : SFc := fun fs as Q => match as with
  | [.fz d] => ∃ (B : Nat) (ts : List (Nat × Nat)), Fd B fs ∧ d = .list (ts.map tieD) ∧ ts.length ≤ 1000000 ∧ B ≤ 800000000 ∧ ∀ (ts' : List (Nat × Nat)) fs', List.Sublist ts' ts → Fd (B + 1 + ts.length) fs' → Q (.list (ts'.map tieD)) fs'
  | _ => False
def S__law_stacked_ties : SFc := fun fs as Q => match as with
  | [.fz (.int m)] => ∃ B n : Nat, Fd B fs ∧ m = (n : Nat) ∧ n ≤ 10 ∧ B ≤ 800000000 ∧ ∀ (E : List (Nat × Nat)) fs', Wi n E → E.length ≤ 30 → Fd (B + 10) fs' → Q (.list (E.map tieD)) fs'
  | _ => False
def S__law_barred_ties : SFc := fun fs as Q => match as with
  | [.fz (.int m)] => ∃ B n : Nat, Fd B fs ∧ m = (n : Nat) ∧ 4 < n ∧ n ≤ 10 ∧ B ≤ 800000000 ∧ ∀ (E : List (Nat × Nat)) fs', Wi n E → E.length ≤ 30 → Fd (B + 30) fs' → Q (.list (E.map tieD)) fs'
  | _ => False
def S__law_cube : SFc := fun fs as Q => match as with
  | [.fz (.int m)] => ∃ B n : Nat, Fd B fs ∧ m = (n : Nat) ∧ n ≤ 10 ∧ B ≤ 800000000 ∧ ∀ (k : Nat) (E : List (Nat × Nat)) fs', 1 ≤ k → k ≤ max 1 n → List.Sublist E (pairsL k) → Fd (B + 100) fs' → Q (.tuple [.int (k : Nat), .list (E.map tieD)]) fs'
  | _ => False
def S__law_web : SFc := fun fs as Q => match as with
  | [.fz (.int m)] => ∃ B n : Nat, Fd B fs ∧ m = (n : Nat) ∧ n ≤ 10 ∧ B ≤ 700000000 ∧ ∀ k ts fs', Ok k ts → k ≤ max 1 n → Fd (B + 500) fs' → Q (webD k ts) fs'
  | _ => False
end G

set_option Elab.async false
set_option linter.all false
set_option maxRecDepth 100000
set_option maxHeartbeats 1000000

namespace G
open PySem PySem.Spec PyProof.Rows L2 DC
/-! Printed by gen.py: what each def asks, as a reading on data. -/
/-! is_integer -/
abbrev N_is_integer : List Str := ["thing"]
def w_is_integer : WS := wRet (wAndV (wIsi "int" (wVar 0)) (wNotV (wIsi "bool" (wVar 0))))
theorem hl_is_integer : ∀ as Q, (S_is_integer) as Q → as.length = 1 := by
  intro as Q h
  unfold S_is_integer at h
  split at h <;> first | rfl | exact h.elim
abbrev vS_is_integer : Prop := ∀ as Q, (S_is_integer) as Q → w_is_integer ⟨fun _ => Q (.fz .none), fun r _ => Q r, fun _ => False, fun _ => False⟩ (entry N_is_integer as)
/-! is_within -/
abbrev N_is_within : List Str := ["thing", "least", "most"]
def w_is_within : WS := wRet (wAndV (wCallP S_is_integer (wCons (wVar 0) (wNil))) (wChain rdLe rdLe (wVar 1) (wVar 0) (wVar 2)))
theorem hl_is_within : ∀ as Q, (S_is_within) as Q → as.length = 3 := by
  intro as Q h
  unfold S_is_within at h
  split at h <;> first | rfl | exact h.elim
abbrev vS_is_within : Prop := ∀ as Q, (S_is_within) as Q → w_is_within ⟨fun _ => Q (.fz .none), fun r _ => Q r, fun _ => False, fun _ => False⟩ (entry N_is_within as)
/-! is_row -/
abbrev N_is_row : List Str := ["thing", "least", "most"]
def w_is_row : WS := wRet (wAndV (wIsi "tuple" (wVar 0)) (wChain rdLe rdLe (wVar 1) (wCB rdLen (wCons (wVar 0) (wNil))) (wVar 2)))
theorem hl_is_row : ∀ as Q, (S_is_row) as Q → as.length = 3 := by
  intro as Q h
  unfold S_is_row at h
  split at h <;> first | rfl | exact h.elim
abbrev vS_is_row : Prop := ∀ as Q, (S_is_row) as Q → w_is_row ⟨fun _ => Q (.fz .none), fun r _ => Q r, fun _ => False, fun _ => False⟩ (entry N_is_row as)
/-! is_rising -/
abbrev N_is_rising : List Str := ["parts", "one", "other"]
def w_is_rising : WS := wRet (wCB rdAll (wCons (wLc (wZip (wCons (wVar 0) (wCons (wSl rdSl (wVar 0) (wSome (wC (.int 1))) (wNo)) (wNil)))) (gT 2 (gCons' (gN 1) (gCons' (gN 2) (gNil')))) (wYes) (wOp rdLt (wVar 1) (wVar 2)) [1, 2]) (wNil)))
theorem hl_is_rising : ∀ as Q, (S_is_rising) as Q → as.length = 1 := by
  intro as Q h
  unfold S_is_rising at h
  split at h <;> first | rfl | exact h.elim
abbrev vS_is_rising : Prop := ∀ as Q, (S_is_rising) as Q → w_is_rising ⟨fun _ => Q (.fz .none), fun r _ => Q r, fun _ => False, fun _ => False⟩ (entry N_is_rising as)
/-! is_tie -/
abbrev N_is_tie : List Str := ["things", "thing", "one"]
def w_is_tie : WS := wSeq (wIfS (wOr (wNot (wTest (wCallP S_is_row (wCons (wVar 1) (wCons (wC (.int 2)) (wCons (wC (.int 2)) (wNil))))))) (wNot (wTest (wCB rdAll (wCons (wLc (wAny (wVar 1)) (gN 2) (wYes) (wCallP S_is_within (wCons (wVar 2) (wCons (wC (.int 0)) (wCons (wOp rdSub (wVar 0) (wC (.int 1))) (wNil))))) [2]) (wNil)))))) (wRet (wC (.bool false))) (wNext))
  (wRet (wOp rdLt (wOp rdIx (wVar 1) (wC (.int 0))) (wOp rdIx (wVar 1) (wC (.int 1)))))
theorem hl_is_tie : ∀ as Q, (S_is_tie) as Q → as.length = 2 := by
  intro as Q h
  unfold S_is_tie at h
  split at h <;> first | rfl | exact h.elim
abbrev vS_is_tie : Prop := ∀ as Q, (S_is_tie) as Q → w_is_tie ⟨fun _ => Q (.fz .none), fun r _ => Q r, fun _ => False, fun _ => False⟩ (entry N_is_tie as)
/-! is_web_form -/
abbrev N_is_web_form : List Str := ["thing", "tie"]
def w_is_web_form : WS := wSeq (wIfS (wOr (wNot (wTest (wCallP S_is_row (wCons (wVar 0) (wCons (wC (.int 2)) (wCons (wC (.int 2)) (wNil))))))) (wOr (wNot (wTest (wCallP S_is_within (wCons (wOp rdIx (wVar 0) (wC (.int 0))) (wCons (wC (.int 0)) (wCons (wC (.int 10)) (wNil))))))) (wNot (wTest (wIsi "tuple" (wOp rdIx (wVar 0) (wC (.int 1)))))))) (wRet (wC (.bool false))) (wNext))
  (wRet (wAndV (wCB rdAll (wCons (wLc (wAny (wOp rdIx (wVar 0) (wC (.int 1)))) (gN 1) (wYes) (wCallP S_is_tie (wCons (wOp rdIx (wVar 0) (wC (.int 0))) (wCons (wVar 1) (wNil)))) [1]) (wNil))) (wCallP S_is_rising (wCons (wOp rdIx (wVar 0) (wC (.int 1))) (wNil)))))
theorem hl_is_web_form : ∀ as Q, (S_is_web_form) as Q → as.length = 1 := by
  intro as Q h
  unfold S_is_web_form at h
  split at h <;> first | rfl | exact h.elim
abbrev vS_is_web_form : Prop := ∀ as Q, (S_is_web_form) as Q → w_is_web_form ⟨fun _ => Q (.fz .none), fun r _ => Q r, fun _ => False, fun _ => False⟩ (entry N_is_web_form as)
/-! need_web -/
abbrev N_need_web : List Str := ["web"]
def w_need_web : WS := wIfS (wNot (wTest (wCallP S_is_web_form (wCons (wVar 0) (wNil))))) (wNever) (wNext)
theorem hl_need_web : ∀ as Q, (S_need_web) as Q → as.length = 1 := by
  intro as Q h
  unfold S_need_web at h
  split at h <;> first | rfl | exact h.elim
abbrev vS_need_web : Prop := ∀ as Q, (S_need_web) as Q → w_need_web ⟨fun _ => Q (.fz .none), fun r _ => Q r, fun _ => False, fun _ => False⟩ (entry N_need_web as)
/-! things_of -/
abbrev N_things_of : List Str := ["lot", "found", "at"]
def lp1_things_of : WS := wWhile (wTest (wOp rdGt (wOp rdShr (wVar 0) (wVar 2)) (wC (.int 0)))) (wSeq (wIfS (wTest (wOp (rdEq false) (wOp rdAnd (wOp rdShr (wVar 0) (wVar 2)) (wC (.int 1))) (wC (.int 1)))) (wDrop (wAppend 1 (wVar 2))) (wNext))
  (wAug 2 rdAddI (wC (.int 1))))
def w_things_of : WS := wSeq (wPar [1, 2] (wRCons (wLst (wNil)) (wRCons (wC (.int 0)) (wRNil))))
  (wSeq (lp1_things_of)
  (wRet (wVar 1)))
theorem hl_things_of : ∀ as Q, (S_things_of) as Q → as.length = 1 := by
  intro as Q h
  unfold S_things_of at h
  split at h <;> first | rfl | exact h.elim
abbrev vS_things_of : Prop := ∀ as Q, (S_things_of) as Q → w_things_of ⟨fun _ => Q (.fz .none), fun r _ => Q r, fun _ => False, fun _ => False⟩ (entry N_things_of as)
/-! Ties.piece_of -/
abbrev N_Ties_piece_of : List Str := ["self", "start", "lot", "found", "waiting", "other"]
def lp1_Ties_piece_of (C_Ties : Addr) : WS := wFor (wAny (wCallP S_things_of (wCons (wOp rdAnd (wOp rdAnd (wOp rdIx (wFld C_Ties "to" (wVar 0)) (wPop 4)) (wVar 2)) (wUn rdInv (wVar 3))) (wNil)))) (gN 5) (wSeq (wAug 3 rdOr (wOp rdShl (wC (.int 1)) (wVar 5)))
  (wDrop (wAppend 4 (wVar 5))))
def lp2_Ties_piece_of (C_Ties : Addr) : WS := wWhile (wIsNilV true 4) ((lp1_Ties_piece_of C_Ties))
def w_Ties_piece_of (C_Ties : Addr) : WS := wSeq (wPar [3, 4] (wRCons (wOp rdShl (wC (.int 1)) (wVar 1)) (wRCons (wLst (wCons (wVar 1) (wNil))) (wRNil))))
  (wSeq ((lp2_Ties_piece_of C_Ties))
  (wRet (wVar 3)))
theorem hl_Ties_piece_of (C_Ties : Addr) : ∀ as Q, (S_Ties_piece_of C_Ties) as Q → as.length = 3 := by
  intro as Q h
  unfold S_Ties_piece_of at h
  split at h <;> first | rfl | exact h.elim
abbrev vS_Ties_piece_of (C_Ties : Addr) : Prop := ∀ as Q, (S_Ties_piece_of C_Ties) as Q → w_Ties_piece_of C_Ties ⟨fun _ => Q (.fz .none), fun r _ => Q r, fun _ => False, fun _ => False⟩ (entry N_Ties_piece_of as)
/-! least_of -/
abbrev N_least_of : List Str := ["lot"]
def w_least_of : WS := wRet (wOp rdIx (wCallP S_things_of (wCons (wVar 0) (wNil))) (wC (.int 0)))
theorem hl_least_of : ∀ as Q, (S_least_of) as Q → as.length = 1 := by
  intro as Q h
  unfold S_least_of at h
  split at h <;> first | rfl | exact h.elim
abbrev vS_least_of : Prop := ∀ as Q, (S_least_of) as Q → w_least_of ⟨fun _ => Q (.fz .none), fun r _ => Q r, fun _ => False, fun _ => False⟩ (entry N_least_of as)
/-! Ties.pieces -/
abbrev N_Ties_pieces : List Str := ["self", "lot", "found", "left", "piece"]
def lp1_Ties_pieces (C_Ties : Addr) : WS := wWhile (wTest (wOp (rdEq true) (wVar 3) (wC (.int 0)))) (wSeq (wSet 4 (wMeth C_Ties "piece_of" ((S_Ties_piece_of C_Ties)) (wVar 0) (wCons (wCallP S_least_of (wCons (wVar 3) (wNil))) (wCons (wVar 1) (wNil)))))
  (wSeq (wDrop (wAppend 2 (wVar 4)))
  (wAug 3 rdAnd (wUn rdInv (wVar 4)))))
def w_Ties_pieces (C_Ties : Addr) : WS := wSeq (wPar [2, 3] (wRCons (wLst (wNil)) (wRCons (wVar 1) (wRNil))))
  (wSeq ((lp1_Ties_pieces C_Ties))
  (wRet (wVar 2)))
theorem hl_Ties_pieces (C_Ties : Addr) : ∀ as Q, (S_Ties_pieces C_Ties) as Q → as.length = 2 := by
  intro as Q h
  unfold S_Ties_pieces at h
  split at h <;> first | rfl | exact h.elim
abbrev vS_Ties_pieces (C_Ties : Addr) : Prop := ∀ as Q, (S_Ties_pieces C_Ties) as Q → w_Ties_pieces C_Ties ⟨fun _ => Q (.fz .none), fun r _ => Q r, fun _ => False, fun _ => False⟩ (entry N_Ties_pieces as)
/-! size_of -/
abbrev N_size_of : List Str := ["lot"]
def w_size_of : WS := wRet (wCB rdLen (wCons (wCallP S_things_of (wCons (wVar 0) (wNil))) (wNil)))
theorem hl_size_of : ∀ as Q, (S_size_of) as Q → as.length = 1 := by
  intro as Q h
  unfold S_size_of at h
  split at h <;> first | rfl | exact h.elim
abbrev vS_size_of : Prop := ∀ as Q, (S_size_of) as Q → w_size_of ⟨fun _ => Q (.fz .none), fun r _ => Q r, fun _ => False, fun _ => False⟩ (entry N_size_of as)
/-! lot_of -/
abbrev N_lot_of : List Str := ["lot"]
def w_lot_of : WS := wRet (wCB rdTuple (wCons (wCallP S_things_of (wCons (wVar 0) (wNil))) (wNil)))
theorem hl_lot_of : ∀ as Q, (S_lot_of) as Q → as.length = 1 := by
  intro as Q h
  unfold S_lot_of at h
  split at h <;> first | rfl | exact h.elim
abbrev vS_lot_of : Prop := ∀ as Q, (S_lot_of) as Q → w_lot_of ⟨fun _ => Q (.fz .none), fun r _ => Q r, fun _ => False, fun _ => False⟩ (entry N_lot_of as)
/-! distance -/
abbrev N_distance : List Str := ["web", "thing", "other", "ties", "here", "many", "found", "later", "one"]
def lp1_distance (C_Ties : Addr) : WS := wFor (wAny (wCallP S_things_of (wCons (wVar 4) (wNil)))) (gN 8) (wAug 7 rdOr (wOp rdIx (wFld C_Ties "to" (wVar 3)) (wVar 8)))
def lp2_distance (C_Ties : Addr) : WS := wWhile (wAnd (wTest (wOp (rdEq true) (wVar 4) (wC (.int 0)))) (wTest (wOp (rdEq false) (wOp rdAnd (wOp rdShr (wVar 4) (wVar 2)) (wC (.int 1))) (wC (.int 0))))) (wSeq (wSet 7 (wC (.int 0)))
  (wSeq ((lp1_distance C_Ties))
  (wSeq (wPar [4, 5] (wRCons (wOp rdAnd (wVar 7) (wUn rdInv (wVar 6))) (wRCons (wOp rdAdd (wVar 5) (wC (.int 1))) (wRNil))))
  (wAug 6 rdOr (wVar 4)))))
def w_distance (C_Ties : Addr) : WS := wSeq (wPar [3, 4, 5] (wRCons (wMake_Ties C_Ties (wCons (wVar 0) (wNil))) (wRCons (wOp rdShl (wC (.int 1)) (wVar 1)) (wRCons (wC (.int 0)) (wRNil)))))
  (wSeq (wSet 6 (wVar 4))
  (wSeq ((lp2_distance C_Ties))
  (wRet (wIf (wTest (wOp (rdEq true) (wVar 4) (wC (.int 0)))) (wVar 5) (wC .none)))))
theorem hl_distance (C_Ties : Addr) : ∀ as Q, (S_distance C_Ties) as Q → as.length = 3 := by
  intro as Q h
  unfold S_distance at h
  split at h <;> first | rfl | exact h.elim
abbrev vS_distance (C_Ties : Addr) : Prop := ∀ as Q, (S_distance C_Ties) as Q → w_distance C_Ties ⟨fun _ => Q (.fz .none), fun r _ => Q r, fun _ => False, fun _ => False⟩ (entry N_distance as)
/-! need_tree -/
abbrev N_need_tree : List Str := ["web", "least", "ties"]
def w_need_tree (C_Ties : Addr) : WS := wSeq (wDrop (wCallP S_need_web (wCons (wVar 0) (wNil))))
  (wSeq (wSet 2 (wMake_Ties C_Ties (wCons (wVar 0) (wNil))))
  (wIfS (wOr (wTest (wOp rdLt (wOp rdIx (wVar 0) (wC (.int 0))) (wVar 1))) (wOr (wTest (wOp (rdEq true) (wCB rdLen (wCons (wOp rdIx (wVar 0) (wC (.int 1))) (wNil))) (wOp rdSub (wOp rdIx (wVar 0) (wC (.int 0))) (wC (.int 1))))) (wTest (wOp (rdEq true) (wCB rdLen (wCons (wMeth C_Ties "pieces" ((S_Ties_pieces C_Ties)) (wVar 2) (wCons (wFld C_Ties "whole" (wVar 2)) (wNil))) (wNil))) (wC (.int 1)))))) (wNever) (wNext)))
theorem hl_need_tree (C_Ties : Addr) : ∀ as Q, (S_need_tree C_Ties) as Q → as.length = 2 := by
  intro as Q h
  unfold S_need_tree at h
  split at h <;> first | rfl | exact h.elim
abbrev vS_need_tree (C_Ties : Addr) : Prop := ∀ as Q, (S_need_tree C_Ties) as Q → w_need_tree C_Ties ⟨fun _ => Q (.fz .none), fun r _ => Q r, fun _ => False, fun _ => False⟩ (entry N_need_tree as)
/-! _law_feed -/
abbrev N__law_feed : List Str := ["script", "k", "cell"]
def w__law_feed : WS := wSeq (wSet 2 (wOp rdAdd (wOp rdMul (wC (.int 977)) (wVar 1)) (wCB rdSum (wCons (wSl rdSl (wVar 0) (wNo) (wSome (wC (.int 1)))) (wNil)))))
  (wSeq (wIfS (wTest (wOp rdLt (wVar 1) (wCB rdLen (wCons (wVar 0) (wNil))))) (wSet 2 (wOp rdIx (wVar 0) (wVar 1))) (wNext))
  (wRet (wLst (wCons (wCB rdMax2 (wCons (wC (.int 0)) (wCons (wOp rdSub (wVar 2) (wOp rdPow (wC (.int 10)) (wC (.int 18)))) (wNil)))) (wCons (wOp rdMod (wCB rdInt (wCons (wOp rdAdd (wOp rdMul (wVar 2) (wC (.int 19))) (wOp rdMul (wC (.int 7)) (wVar 1))) (wNil))) (wOp rdAdd (wOp rdPow (wC (.int 10)) (wC (.int 39))) (wC (.int 23)))) (wCons (wC (.int 0)) (wNil)))))))
theorem hl__law_feed : ∀ as Q, (S__law_feed) as Q → as.length = 2 := by
  intro as Q h
  unfold S__law_feed at h
  split at h <;> first | rfl | exact h.elim
abbrev vS__law_feed : Prop := ∀ as Q, (S__law_feed) as Q → w__law_feed ⟨fun _ => Q (.fz .none), fun r _ => Q r, fun _ => False, fun _ => False⟩ (entry N__law_feed as)
/-! _law_draw -/
abbrev N__law_draw : List Str := ["feed", "many", "rest", "got", "stir"]
def w__law_draw : WS := wSeq (wIfS (wTest (wOp rdGt (wIxV 0 (wC (.int 0))) (wC (.int 0)))) (wSeq (wSet 2 (wOp rdFdiv (wIxV 0 (wC (.int 0))) (wVar 1)))
  (wSeq (wSet 3 (wOp rdSub (wIxV 0 (wC (.int 0))) (wOp rdMul (wVar 2) (wVar 1))))
  (wSeq (wSetIx 0 (wC (.int 0)) (wVar 2))
  (wRet (wVar 3))))) (wNext))
  (wSeq (wSetIx 0 (wC (.int 2)) (wOp rdAdd (wIxV 0 (wC (.int 2))) (wC (.int 1))))
  (wSeq (wSet 4 (wOp rdAdd (wIxV 0 (wC (.int 1))) (wOp rdMul (wC (.int 6700417)) (wIxV 0 (wC (.int 2))))))
  (wSeq (wSet 4 (wOp rdMod (wCB rdInt (wCons (wOp rdAdd (wOp rdMul (wOp rdMul (wVar 4) (wVar 4)) (wVar 4)) (wOp rdMul (wC (.int 15485863)) (wIxV 0 (wC (.int 2))))) (wNil))) (wOp rdAdd (wOp rdPow (wC (.int 10)) (wC (.int 43))) (wC (.int 57)))))
  (wSeq (wSet 4 (wOp rdMod (wCB rdInt (wCons (wOp rdAdd (wOp rdMul (wVar 4) (wVar 4)) (wC (.int 32452843))) (wNil))) (wOp rdAdd (wOp rdPow (wC (.int 10)) (wC (.int 38))) (wC (.int 133)))))
  (wRet (wOp rdMod (wCB rdInt (wCons (wOp rdFdiv (wVar 4) (wOp rdPow (wC (.int 10)) (wC (.int 9)))) (wNil))) (wVar 1)))))))
theorem hl__law_draw : ∀ fs as Q, (S__law_draw) fs as Q → as.length + 1 = 2 := by
  intro fs as Q h
  unfold S__law_draw at h
  split at h <;> first | rfl | exact h.elim
abbrev vS__law_draw : Prop := ∀ fs as Q, (S__law_draw) fs as Q → ∀ a, w__law_draw ⟨fun _ => False, fun r ρ => ∃ d fs', r.dat = some d ∧ ρ[0]? = some (.bw a fs') ∧ Q d fs', fun _ => False, fun _ => False⟩ (entry N__law_draw (.bw a fs :: as))
/-! _law_one -/
abbrev N__law_one : List Str := ["feed", "things"]
def w__law_one : WS := wRet (wOp rdIx (wVar 1) (wCallF S__law_draw 0 (wCons (wCB rdLen (wCons (wVar 1) (wNil))) (wNil))))
theorem hl__law_one : ∀ fs as Q, (S__law_one) fs as Q → as.length + 1 = 2 := by
  intro fs as Q h
  unfold S__law_one at h
  split at h <;> first | rfl | exact h.elim
abbrev vS__law_one : Prop := ∀ fs as Q, (S__law_one) fs as Q → ∀ a, w__law_one ⟨fun _ => False, fun r ρ => ∃ d fs', r.dat = some d ∧ ρ[0]? = some (.bw a fs') ∧ Q d fs', fun _ => False, fun _ => False⟩ (entry N__law_one (.bw a fs :: as))
/-! _law_mixed -/
abbrev N__law_mixed : List Str := ["feed", "things", "pool", "got", "turn"]
def lp1__law_mixed : WS := wFor (wRange1 (wCons (wCB rdLen (wCons (wVar 1) (wNil))) (wNil))) (gN 4) (wDrop (wAppend 3 (wPopAt 2 (wCallF S__law_draw 0 (wCons (wLenV 2) (wNil))))))
def w__law_mixed : WS := wSeq (wPar [2, 3] (wRCons (wCB rdList (wCons (wVar 1) (wNil))) (wRCons (wLst (wNil)) (wRNil))))
  (wSeq (lp1__law_mixed)
  (wRet (wVar 3)))
theorem hl__law_mixed : ∀ fs as Q, (S__law_mixed) fs as Q → as.length + 1 = 2 := by
  intro fs as Q h
  unfold S__law_mixed at h
  split at h <;> first | rfl | exact h.elim
abbrev vS__law_mixed : Prop := ∀ fs as Q, (S__law_mixed) fs as Q → ∀ a, w__law_mixed ⟨fun _ => False, fun r ρ => ∃ d fs', r.dat = some d ∧ ρ[0]? = some (.bw a fs') ∧ Q d fs', fun _ => False, fun _ => False⟩ (entry N__law_mixed (.bw a fs :: as))
/-! _law_tree_ties -/
abbrev N__law_tree_ties : List Str := ["feed", "many", "way", "at"]
def w__law_tree_ties : WS := wSeq (wZ 2 (wSet 2 (wCallF S__law_draw 0 (wCons (wC (.int 3)) (wNil)))))
  (wRet (wLc (wRange2 (wCons (wC (.int 1)) (wCons (wVar 1) (wNil)))) (gN 3) (wYes) (wTup (wCons (wOp rdSub (wOp rdSub (wVar 3) (wC (.int 1))) (wIf (wTest (wOp (rdEq false) (wVar 2) (wC (.int 0)))) (wC (.int 0)) (wIf (wTest (wOp (rdEq false) (wVar 2) (wC (.int 1)))) (wCallF S__law_draw 0 (wCons (wCB rdMin2 (wCons (wVar 3) (wCons (wC (.int 2)) (wNil)))) (wNil))) (wCallF S__law_draw 0 (wCons (wVar 3) (wNil)))))) (wCons (wVar 3) (wNil)))) [3]))
theorem hl__law_tree_ties : ∀ fs as Q, (S__law_tree_ties) fs as Q → as.length + 1 = 2 := by
  intro fs as Q h
  unfold S__law_tree_ties at h
  split at h <;> first | rfl | exact h.elim
abbrev vS__law_tree_ties : Prop := ∀ fs as Q, (S__law_tree_ties) fs as Q → ∀ a, w__law_tree_ties ⟨fun _ => False, fun r ρ => ∃ d fs', r.dat = some d ∧ ρ[0]? = some (.bw a fs') ∧ Q d fs', fun _ => False, fun _ => False⟩ (entry N__law_tree_ties (.bw a fs :: as))
/-! _law_made -/
abbrev N__law_made : List Str := ["many", "ties", "one", "other"]
def w__law_made : WS := wRet (wTup (wCons (wVar 0) (wCons (wCB rdTuple (wCons (wSortedSet (wLc (wAny (wVar 1)) (gT 2 (gCons' (gN 2) (gCons' (gN 3) (gNil')))) (wTest (wOp (rdEq true) (wVar 2) (wVar 3))) (wTup (wCons (wCB rdMin2 (wCons (wVar 2) (wCons (wVar 3) (wNil)))) (wCons (wCB rdMax2 (wCons (wVar 2) (wCons (wVar 3) (wNil)))) (wNil)))) [2, 3])) (wNil))) (wNil))))
theorem hl__law_made : ∀ as Q, (S__law_made) as Q → as.length = 2 := by
  intro as Q h
  unfold S__law_made at h
  split at h <;> first | rfl | exact h.elim
abbrev vS__law_made : Prop := ∀ as Q, (S__law_made) as Q → w__law_made ⟨fun _ => Q (.fz .none), fun r _ => Q r, fun _ => False, fun _ => False⟩ (entry N__law_made as)
/-! _law_tree -/
abbrev N__law_tree : List Str := ["feed", "most", "many", "names", "one", "other"]
def w__law_tree : WS := wSeq (wSet 2 (wOp rdAdd (wC (.int 1)) (wCallF S__law_draw 0 (wCons (wVar 1) (wNil)))))
  (wSeq (wZ 3 (wSet 3 (wCallF S__law_mixed 0 (wCons (wListRg1 (wVar 2)) (wNil)))))
  (wRet (wCallP S__law_made (wCons (wVar 2) (wCons (wLc (wAny (wCallF S__law_tree_ties 0 (wCons (wVar 2) (wNil)))) (gT 2 (gCons' (gN 4) (gCons' (gN 5) (gNil')))) (wYes) (wTup (wCons (wOp rdIx (wVar 3) (wVar 4)) (wCons (wOp rdIx (wVar 3) (wVar 5)) (wNil)))) [4, 5]) (wNil))))))
theorem hl__law_tree : ∀ fs as Q, (S__law_tree) fs as Q → as.length + 1 = 2 := by
  intro fs as Q h
  unfold S__law_tree at h
  split at h <;> first | rfl | exact h.elim
abbrev vS__law_tree : Prop := ∀ fs as Q, (S__law_tree) fs as Q → ∀ a, w__law_tree ⟨fun _ => False, fun r ρ => ∃ d fs', r.dat = some d ∧ ρ[0]? = some (.bw a fs') ∧ Q d fs', fun _ => False, fun _ => False⟩ (entry N__law_tree (.bw a fs :: as))
/-! _law_near -/
abbrev N__law_near : List Str := ["web", "one", "two", "thing"]
def w__law_near : WS := wRet (wLc (wRange1 (wCons (wOp rdIx (wVar 0) (wC (.int 0))) (wNil))) (gN 3) (wYes) (wCB rdSorted (wCons (wOp rdAdd (wLc (wAny (wOp rdIx (wVar 0) (wC (.int 1)))) (gT 2 (gCons' (gN 1) (gCons' (gN 2) (gNil')))) (wTest (wOp (rdEq false) (wVar 1) (wVar 3))) (wVar 2) [1, 2]) (wLc (wAny (wOp rdIx (wVar 0) (wC (.int 1)))) (gT 2 (gCons' (gN 1) (gCons' (gN 2) (gNil')))) (wTest (wOp (rdEq false) (wVar 2) (wVar 3))) (wVar 1) [1, 2])) (wNil))) [3])
theorem hl__law_near : ∀ as Q, (S__law_near) as Q → as.length = 1 := by
  intro as Q h
  unfold S__law_near at h
  split at h <;> first | rfl | exact h.elim
abbrev vS__law_near : Prop := ∀ as Q, (S__law_near) as Q → w__law_near ⟨fun _ => Q (.fz .none), fun r _ => Q r, fun _ => False, fun _ => False⟩ (entry N__law_near as)
/-! _law_pieces -/
abbrev N__law_pieces : List Str := ["near", "lot", "met", "found", "start", "piece", "here", "thing", "other"]
def lp1__law_pieces : WS := wFor (wAny (wOp rdIx (wVar 0) (wVar 7))) (gN 8) (wIfS (wAnd (wTest (wOp (rdIn false) (wVar 8) (wVar 1))) (wDNotIn true 2 (wVar 8))) (wSeq (wDPut 2 (wVar 8) (wC (.bool true)))
  (wDrop (wAppend 6 (wVar 8)))) (wNext))
def lp2__law_pieces : WS := wWhile (wIsNilV true 6) (wSeq (wSet 7 (wPop 6))
  (wSeq (wDrop (wAppend 5 (wVar 7)))
  (lp1__law_pieces)))
def lp3__law_pieces : WS := wFor (wAny (wVar 1)) (gN 4) (wIfS (wDNotIn true 2 (wVar 4)) (wSeq (wDPut 2 (wVar 4) (wC (.bool true)))
  (wSeq (wPar [5, 6] (wRCons (wLst (wNil)) (wRCons (wLst (wCons (wVar 4) (wNil))) (wRNil))))
  (wSeq (lp2__law_pieces)
  (wDrop (wAppend 3 (wCB rdTuple (wCons (wCB rdSorted (wCons (wVar 5) (wNil))) (wNil)))))))) (wNext))
def w__law_pieces : WS := wSeq (wPar [2, 3] (wRCons (wDNew) (wRCons (wLst (wNil)) (wRNil))))
  (wSeq (lp3__law_pieces)
  (wRet (wCB rdSorted (wCons (wVar 3) (wNil)))))
theorem hl__law_pieces : ∀ as Q, (S__law_pieces) as Q → as.length = 2 := by
  intro as Q h
  unfold S__law_pieces at h
  split at h <;> first | rfl | exact h.elim
abbrev vS__law_pieces : Prop := ∀ as Q, (S__law_pieces) as Q → w__law_pieces ⟨fun _ => Q (.fz .none), fun r _ => Q r, fun _ => False, fun _ => False⟩ (entry N__law_pieces as)
/-! _law_far -/
abbrev N__law_far : List Str := ["near", "found", "start", "row", "here", "far", "later", "thing"]
def lp1__law_far : WS := wFor (wAny (wVar 4)) (gN 7) (wIfS (wTest (wOp (rdIs false) (wIxV 3 (wVar 7)) (wC .none))) (wSeq (wSetIx 3 (wVar 7) (wVar 5))
  (wDrop (wExtA 6 (wOp rdIx (wVar 0) (wVar 7))))) (wNext))
def lp2__law_far : WS := wFor (wRange1 (wCons (wCB rdLen (wCons (wVar 0) (wNil))) (wNil))) (gN 5) (wSeq (wSet 6 (wLst (wNil)))
  (wSeq (lp1__law_far)
  (wSet 4 (wVar 6))))
def lp3__law_far : WS := wFor (wRange1 (wCons (wCB rdLen (wCons (wVar 0) (wNil))) (wNil))) (gN 2) (wSeq (wZ 4 (wPar [3, 4] (wRCons (wRep (wLst (wCons (wC .none) (wNil))) (wCB rdLen (wCons (wVar 0) (wNil)))) (wRCons (wLst (wCons (wVar 2) (wNil))) (wRNil)))))
  (wSeq (lp2__law_far)
  (wDrop (wAppend 1 (wVar 3)))))
def w__law_far : WS := wSeq (wSet 1 (wLst (wNil)))
  (wSeq (lp3__law_far)
  (wRet (wVar 1)))
theorem hl__law_far : ∀ as Q, (S__law_far) as Q → as.length = 1 := by
  intro as Q h
  unfold S__law_far at h
  split at h <;> first | rfl | exact h.elim
abbrev vS__law_far : Prop := ∀ as Q, (S__law_far) as Q → w__law_far ⟨fun _ => Q (.fz .none), fun r _ => Q r, fun _ => False, fun _ => False⟩ (entry N__law_far as)
end G

set_option Elab.async false
set_option linter.all false
set_option maxRecDepth 100000
set_option maxHeartbeats 1000000
/-! lots as masks; lists without doubles; webs: plain facts -/
namespace G
open PySem PySem.Spec PyProof.Rows L2 DC
theorem len_le_of_sub {α : Type} [BEq α] [LawfulBEq α] : ∀ {l r : List α}, l.Nodup → (∀ x ∈ l, x ∈ r) → l.length ≤ r.length
  | [], _, _, _ => Nat.zero_le _
  | a :: t, r, nd, h => by
    have ha := h a List.mem_cons_self
    have := len_le_of_sub (l := t) (r := r.erase a) (List.nodup_cons.mp nd).2 fun x hx => by
      have hne : x ≠ a := fun e => (List.nodup_cons.mp nd).1 (e ▸ hx)
      exact (List.mem_erase_of_ne hne).mpr (h x (List.mem_cons_of_mem _ hx))
    rw [List.length_erase_of_mem ha] at this
    have hp := List.length_pos_of_mem ha
    simp only [List.length_cons]
    omega
theorem shr_bit (m a : Nat) : (m / 2 ^ a) % 2 = 1 ↔ m.testBit a = true := by
  rw [Nat.testBit_eq_decide_div_mod_eq]
  simp
theorem mem_bits {m i : Nat} (h : m < 65536) : i ∈ bits m ↔ m.testBit i = true := by
  unfold bits
  rw [List.mem_filter, List.mem_range]
  constructor
  · exact fun z => z.2
  · intro z
    refine ⟨?_, z⟩
    by_cases hi : i < 16
    · exact hi
    · have : m.testBit i = false := Nat.testBit_lt_two_pow (Nat.lt_of_lt_of_le h (Nat.pow_le_pow_right (n := 2) (by decide) (show 16 ≤ i by omega)))
      rw [this] at z
      cases z
theorem nodup_bits (m : Nat) : (bits m).Nodup := List.Nodup.sublist List.filter_sublist List.nodup_range
theorem asc_bits (m : Nat) : (bits m).Pairwise (· < ·) := List.Pairwise.sublist List.filter_sublist List.pairwise_lt_range
theorem bits_len (m : Nat) : (bits m).length ≤ 16 := Nat.le_trans (List.length_filter_le _ _) (by simp)
theorem testBit_pow (a i : Nat) : (2 ^ a).testBit i = decide (a = i) := Nat.testBit_two_pow
theorem lt_of_bits {m n : Nat} (h : ∀ i, m.testBit i = true → i < n) : m < 2 ^ n := by
  apply Nat.lt_pow_two_of_testBit
  intro i hi
  cases e : m.testBit i with
  | false => rfl
  | true => have := h i e; omega
theorem testBit_full (n i : Nat) : (full n).testBit i = decide (i < n) := by
  unfold full
  exact Nat.testBit_two_pow_sub_one n i
theorem full_lt (n : Nat) : full n < 2 ^ n := by
  have := Nat.two_pow_pos n
  unfold full
  omega
theorem bit_lt {m n i : Nat} (h : m < 2 ^ n) (hi : m.testBit i = true) : i < n := by
  by_cases z : i < n
  · exact z
  · have : m.testBit i = false := Nat.testBit_lt_two_pow (Nat.lt_of_lt_of_le h (Nat.pow_le_pow_right (by decide) (by omega)))
    rw [this] at hi
    cases hi
theorem asc_ext {α : Type} {r : α → α → Prop} (irr : ∀ a, ¬ r a a) (tr : ∀ a b c, r a b → r b c → r a c) : ∀ {l l' : List α}, l.Pairwise r → l'.Pairwise r → (∀ x, x ∈ l ↔ x ∈ l') → l = l'
  | [], [], _, _, _ => rfl
  | [], b :: _, _, _, h => by simpa using (h b).mpr List.mem_cons_self
  | a :: _, [], _, _, h => by simpa using (h a).mp List.mem_cons_self
  | a :: t, b :: s, p, q, h => by
    obtain ⟨pa, pt⟩ := List.pairwise_cons.mp p
    obtain ⟨qb, qs⟩ := List.pairwise_cons.mp q
    have e : a = b := by
      rcases List.mem_cons.mp ((h a).mp List.mem_cons_self) with z | z
      · exact z
      · rcases List.mem_cons.mp ((h b).mpr List.mem_cons_self) with w | w
        · exact w.symm
        · exact absurd (tr _ _ _ (pa b w) (qb a z)) (irr a)
    subst e
    congr 1
    refine asc_ext irr tr pt qs fun x => ?_
    have hx := h x
    constructor
    · intro z
      rcases List.mem_cons.mp (hx.mp (List.mem_cons_of_mem _ z)) with w | w
      · subst w; exact absurd (pa x z) (irr x)
      · exact w
    · intro z
      rcases List.mem_cons.mp (hx.mpr (List.mem_cons_of_mem _ z)) with w | w
      · subst w; exact absurd (qb x z) (irr x)
      · exact w
theorem asc_nats {l l' : List Nat} (p : l.Pairwise (· < ·)) (q : l'.Pairwise (· < ·)) (h : ∀ x, x ∈ l ↔ x ∈ l') : l = l' :=
  asc_ext (r := (· < ·)) (fun a => Nat.lt_irrefl a) (fun _ _ _ => Nat.lt_trans) p q h
theorem lexL_irr (a : Nat × Nat) : ¬ lexL a a := by unfold lexL; omega
theorem lexL_tr (a b c : Nat × Nat) : lexL a b → lexL b c → lexL a c := by unfold lexL; omega
theorem asc_ties {l l' : List (Nat × Nat)} (p : l.Pairwise lexL) (q : l'.Pairwise lexL) (h : ∀ x, x ∈ l ↔ x ∈ l') : l = l' := asc_ext lexL_irr lexL_tr p q h
theorem bits_eq {m : Nat} {l : List Nat} (h : m < 65536) (p : l.Pairwise (· < ·)) (e : ∀ i, m.testBit i = true ↔ i ∈ l) : bits m = l :=
  asc_nats (asc_bits m) p fun x => (mem_bits h).trans (e x)
theorem testBit_orAll (xs : List Nat) (i : Nat) : ∀ F : Nat, (orAll F xs).testBit i = true ↔ (F.testBit i = true ∨ i ∈ xs) := by
  induction xs with
  | nil => intro F; simp [orAll]
  | cons x r ih =>
    intro F
    show (orAll (F ||| 2 ^ x) r).testBit i = true ↔ _
    rw [ih, Nat.testBit_or, testBit_pow, Bool.or_eq_true, decide_eq_true_eq, List.mem_cons]
    grind
theorem orAll_snoc (F : Nat) (xs : List Nat) (x : Nat) : orAll F (xs ++ [x]) = orAll F xs ||| 2 ^ x := by simp [orAll]
theorem bit_orAll (xs : List Nat) (i : Nat) : (orAll 0 xs).testBit i = true ↔ i ∈ xs := by rw [testBit_orAll]; simp
theorem orAll_lt {xs : List Nat} {n : Nat} (h : ∀ x ∈ xs, x < n) : orAll 0 xs < 2 ^ n := lt_of_bits fun i hi => h i ((bit_orAll xs i).mp hi)
theorem lt_16 {m n : Nat} (h : m < 2 ^ n) (hn : n ≤ 16) : m < 65536 := Nat.lt_of_lt_of_le h (Nat.le_trans (Nat.pow_le_pow_right (by decide) hn) (by decide))
theorem orAll_16 {xs : List Nat} (h : ∀ x ∈ xs, x < 16) : orAll 0 xs < 65536 := lt_16 (orAll_lt h) (by omega)
theorem bits_orAll {xs : List Nat} (p : xs.Pairwise (· < ·)) (h : ∀ x ∈ xs, x < 16) : bits (orAll 0 xs) = xs := bits_eq (orAll_16 h) p fun i => bit_orAll xs i
theorem eq_of_bits {a b : Nat} (h : ∀ i, a.testBit i = true ↔ b.testBit i = true) : a = b := Nat.eq_of_testBit_eq fun i => by rw [Bool.eq_iff_iff]; exact h i
theorem orAll_bits {m : Nat} (h : m < 65536) : orAll 0 (bits m) = m := eq_of_bits fun i => by rw [bit_orAll, mem_bits h]
theorem bits_full {n : Nat} (h : n ≤ 16) : bits (full n) = List.range n := bits_eq (lt_16 (full_lt n) h) List.pairwise_lt_range fun i => by rw [testBit_full, List.mem_range, decide_eq_true_eq]
theorem nb_fold (ts : List (Nat × Nat)) (v u : Nat) : ∀ m, (∀ p ∈ ts, p.1 ≠ p.2) → (ts.foldl (fun (m : Nat) (p : Nat × Nat) => if p.1 = v then m ||| 2 ^ p.2 else if p.2 = v then m ||| 2 ^ p.1 else m) m).testBit u = (m.testBit u || tied ts v u) := by
  induction ts with
  | nil => intro m _; simp [tied]
  | cons p r ih =>
    intro m h
    rw [List.foldl_cons, ih _ fun q hq => h q (List.mem_cons_of_mem _ hq)]
    have hp := h p List.mem_cons_self
    obtain ⟨a, b⟩ := p
    simp only at hp
    have e : tied ((a, b) :: r) v u = (decide ((a = v ∧ b = u) ∨ (b = v ∧ a = u)) || tied r v u) := by
      rw [Bool.eq_iff_iff]
      simp only [tied, Bool.or_eq_true, decide_eq_true_eq, List.mem_cons, Prod.mk.injEq]
      grind
    rw [e]
    by_cases h1 : a = v
    · rw [if_pos h1, Nat.testBit_or, testBit_pow, Bool.or_assoc]
      congr 2
      rw [decide_eq_decide]
      grind
    · rw [if_neg h1]
      by_cases h2 : b = v
      · rw [if_pos h2, Nat.testBit_or, testBit_pow, Bool.or_assoc]
        congr 2
        rw [decide_eq_decide]
        grind
      · rw [if_neg h2]
        have : decide ((a = v ∧ b = u) ∨ (b = v ∧ a = u)) = false := by grind
        rw [this, Bool.false_or]
theorem testBit_nb {ts : List (Nat × Nat)} (h : ∀ p ∈ ts, p.1 ≠ p.2) (v u : Nat) : (nb ts v).testBit u = tied ts v u := by
  unfold nb
  rw [nb_fold ts v u 0 h]
  simp
theorem Ok.ne {n : Nat} {ts : List (Nat × Nat)} (h : Ok n ts) : ∀ p ∈ ts, p.1 ≠ p.2 := fun p hp => Nat.ne_of_lt (h.tie p hp).1
theorem Ok.tl {n : Nat} {ts : List (Nat × Nat)} (h : Ok n ts) {v u : Nat} (ht : tied ts v u = true) : v < n ∧ u < n ∧ v ≠ u := by
  have := of_decide_eq_true ht
  rcases this with z | z
  · have := h.tie _ z; simp only at this; omega
  · have := h.tie _ z; simp only at this; omega
theorem tied_iff {E : List (Nat × Nat)} {x y : Nat} : tied E x y = true ↔ (x, y) ∈ E ∨ (y, x) ∈ E := decide_eq_true_iff
theorem tied_symm (ts : List (Nat × Nat)) (v u : Nat) : tied ts v u = tied ts u v := by
  unfold tied
  rw [decide_eq_decide]
  exact Or.comm
theorem nb_lt {n : Nat} {ts : List (Nat × Nat)} (h : Ok n ts) (v : Nat) : nb ts v < 2 ^ n := lt_of_bits fun i hi => by
  rw [testBit_nb h.ne] at hi
  exact (h.tl hi).2.1
theorem pow_16 {n m : Nat} (h : m < 2 ^ n) (hn : n ≤ 10) : m < 65536 := lt_16 h (by omega)
theorem nb_16 {n : Nat} {ts : List (Nat × Nat)} (h : Ok n ts) (v : Nat) : nb ts v < 65536 := pow_16 (nb_lt h v) h.n10
@[simp] theorem natsD_len (l : List Nat) : (natsD l).length = l.length := by simp [natsD]
theorem natsD_ints (l : List Nat) : natsD l = (l.map fun i : Nat => (i : Int)).map PyData.int := by simp [natsD]
theorem natsD_get (l : List Nat) (i : Nat) : (natsD l)[i]? = l[i]?.map fun i : Nat => PyData.int (i : Int) := by simp [natsD]
@[simp] theorem natsD_nil (l : List Nat) : natsD l = [] ↔ l = [] := by simp [natsD]
@[simp] theorem natsD_app (l r : List Nat) : natsD (l ++ r) = natsD l ++ natsD r := by simp [natsD]
theorem natsD_inj {l r : List Nat} (h : natsD l = natsD r) : l = r := (List.map_inj_right (f := fun i : Nat => PyData.int (i : Int)) fun a b e => by simp at e; omega).mp h
theorem mem_ints {l : List Nat} {w : Nat} : (w : Int) ∈ l.map (fun i : Nat => (i : Int)) ↔ w ∈ l := by
  rw [List.mem_map]
  constructor
  · rintro ⟨a, ha, e⟩
    have : a = w := by omega
    exact this ▸ ha
  · exact fun z => ⟨w, z, rfl⟩
theorem tieD_inj {p q : Nat × Nat} (h : tieD p = tieD q) : p = q := by
  simp [tieD] at h
  exact Prod.ext (by omega) (by omega)
theorem tiesD_inj {l r : List (Nat × Nat)} (h : l.map tieD = r.map tieD) : l = r := (List.map_inj_right fun p q e => tieD_inj e).mp h
theorem webD_inj {n m : Nat} {ts tr : List (Nat × Nat)} (h : webD n ts = webD m tr) : n = m ∧ ts = tr := by
  simp [webD] at h
  exact ⟨by omega, tiesD_inj h.2⟩
theorem ok_nodup {n : Nat} {ts : List (Nat × Nat)} (ok : Ok n ts) : ts.Nodup := ok.asc.imp fun {a b} z e => by subst e; unfold lexL at z; omega
/-! ### webs -/
def pairs10 : List (Nat × Nat) := (List.range 10).flatMap fun b => (List.range b).map fun a => (a, b)
theorem few_of {n : Nat} {ts : List (Nat × Nat)} (n10 : n ≤ 10) (tie : ∀ p ∈ ts, p.1 < p.2 ∧ p.2 < n) (asc : ts.Pairwise lexL) : ts.length ≤ 45 := by
  have nd : ts.Nodup := asc.imp fun {a b} z e => by subst e; unfold lexL at z; omega
  have := len_le_of_sub (r := pairs10) nd fun p hp => by
    have := tie p hp
    unfold pairs10
    exact List.mem_flatMap.mpr ⟨p.2, List.mem_range.mpr (by omega), List.mem_map.mpr ⟨p.1, List.mem_range.mpr (by omega), rfl⟩⟩
  have e : pairs10.length = 45 := by decide +kernel
  omega
theorem Ok.of {n : Nat} {ts : List (Nat × Nat)} (n10 : n ≤ 10) (tie : ∀ p ∈ ts, p.1 < p.2 ∧ p.2 < n) (asc : ts.Pairwise lexL) : Ok n ts := ⟨n10, tie, asc, few_of n10 tie asc⟩
theorem isTieB_iff {n : Int} {d : PyData} : isTieB n d = true ↔ ∃ p : Nat × Nat, d = tieD p ∧ p.1 < p.2 ∧ (p.2 : Int) < n := by
  constructor
  · intro h
    unfold isTieB at h
    split at h
    · rename_i a b
      cases a <;> cases b <;> simp [inB, ltI] at h
      rename_i i j
      refine ⟨(i.toNat, j.toNat), ?_, by simp only; omega, by simp only; omega⟩
      have e1 : (i.toNat : Int) = i := by omega
      have e2 : (j.toNat : Int) = j := by omega
      simp only [tieD, e1, e2]
    · cases h
  · rintro ⟨p, rfl, h1, h2⟩
    simp [isTieB, tieD, inB, ltI]
    omega
theorem tieOf_tieD (p : Nat × Nat) : tieOf (tieD p) = p := by simp [tieOf, tieD]
theorem isWebB_iff {d : PyData} : isWebB d = true ↔ ∃ n ts, d = webD n ts ∧ Ok n ts := by
  constructor
  · intro h
    unfold isWebB at h
    split at h
    · rename_i i ds
      simp only [Bool.and_eq_true, decide_eq_true_eq, List.all_eq_true] at h
      obtain ⟨⟨⟨h1, h2⟩, h3⟩, h4⟩ := h
      obtain ⟨n, rfl⟩ : ∃ n : Nat, i = n := ⟨i.toNat, by omega⟩
      have e : ds = (ds.map tieOf).map tieD := by
        rw [List.map_map]
        conv => lhs; rw [← List.map_id ds]
        apply List.map_congr_left
        intro x hx
        obtain ⟨p, rfl, _⟩ := isTieB_iff.mp (h3 x hx)
        show _ = tieD (tieOf (tieD p))
        rw [tieOf_tieD]
        rfl
      refine ⟨n, ds.map tieOf, ?_, Ok.of (by omega) ?_ h4⟩
      · show _ = PyData.tuple [.int (n : Int), .tuple ((ds.map tieOf).map tieD)]
        rw [← e]
      · intro p hp
        obtain ⟨x, hx, rfl⟩ := List.mem_map.mp hp
        obtain ⟨q, rfl, h5, h6⟩ := isTieB_iff.mp (h3 x hx)
        rw [tieOf_tieD]
        omega
    · cases h
  · rintro ⟨n, ts, rfl, ok⟩
    have := ok.n10
    have e : (ts.map tieD).map tieOf = ts := by
      rw [List.map_map]
      conv => rhs; rw [← List.map_id ts]
      apply List.map_congr_left
      intro p _
      exact tieOf_tieD p
    simp only [isWebB, webD, Bool.and_eq_true, decide_eq_true_eq, List.all_eq_true, e]
    refine ⟨⟨⟨by omega, by omega⟩, fun x hx => ?_⟩, ok.asc⟩
    obtain ⟨p, hp, rfl⟩ := List.mem_map.mp hx
    have := ok.tie p hp
    exact isTieB_iff.mpr ⟨p, rfl, this.1, by omega⟩
theorem isWebB_web {n : Nat} {ts : List (Nat × Nat)} (ok : Ok n ts) : isWebB (webD n ts) = true := isWebB_iff.mpr ⟨n, ts, rfl, ok⟩
/-! ### what is reached, pieces -/
theorem Reach.trans {ts : List (Nat × Nat)} {lot s v u : Nat} (h : Reach ts lot s v) (g : Reach ts lot v u) : Reach ts lot s u := by
  induction g with
  | here => exact h
  | go _ t l ih => exact .go ih t l
theorem Reach.inn {ts : List (Nat × Nat)} {lot s v : Nat} (h : Reach ts lot s v) (hs : lot.testBit s = true) : lot.testBit v = true := by
  cases h with
  | here => exact hs
  | go _ _ l => exact l
theorem Reach.symm {ts : List (Nat × Nat)} {lot s v : Nat} (h : Reach ts lot s v) (hs : lot.testBit s = true) : Reach ts lot v s := by
  induction h with
  | here => exact .here
  | @go v u hv t l ih => exact (Reach.go .here (by rw [tied_symm]; exact t) (hv.inn hs)).trans ih
theorem bit_comp {ts : List (Nat × Nat)} {lot s i : Nat} (hl : lot < 65536) (hs : lot.testBit s = true) : (comp ts lot s).testBit i = true ↔ Reach ts lot s i := by
  unfold comp
  classical
  rw [bit_orAll, List.mem_filter, mem_bits hl, decide_eq_true_eq]
  exact ⟨fun z => z.2, fun z => ⟨z.inn hs, z⟩⟩
theorem comp_eq {ts : List (Nat × Nat)} {lot s m : Nat} (hl : lot < 65536) (hs : lot.testBit s = true) (h : IsPiece ts lot s m) : comp ts lot s = m :=
  eq_of_bits fun i => by rw [bit_comp hl hs, h i]
theorem comp_lt {ts : List (Nat × Nat)} {lot s n : Nat} (hl : lot < 2 ^ n) : comp ts lot s < 2 ^ n := by
  unfold comp
  refine orAll_lt fun x hx => ?_
  have := (List.mem_filter.mp hx).1
  unfold bits at this
  exact bit_lt hl (List.mem_filter.mp this).2
theorem mem_heads {ts : List (Nat × Nat)} {lot s : Nat} (hl : lot < 65536) : s ∈ heads ts lot ↔ lot.testBit s = true ∧ ∀ r, r < s → lot.testBit r = true → ¬ Reach ts lot r s := by
  classical
  unfold heads
  rw [List.mem_filter, mem_bits hl, decide_eq_true_eq]
theorem asc_heads (ts : List (Nat × Nat)) (lot : Nat) : (heads ts lot).Pairwise (· < ·) := (asc_bits lot).sublist List.filter_sublist
theorem heads_len (ts : List (Nat × Nat)) (lot : Nat) : (heads ts lot).length ≤ 16 := Nat.le_trans (List.length_filter_le _ _) (bits_len lot)
theorem exists_least {p : Nat → Prop} : ∀ {k : Nat}, p k → ∃ m, p m ∧ (∀ j, j < m → ¬ p j) ∧ m ≤ k := by
  intro k
  induction k using Nat.strongRecOn with
  | ind k ih =>
    intro h
    by_cases e : ∃ j, j < k ∧ p j
    · obtain ⟨j, hj, hp⟩ := e
      obtain ⟨m, h1, h2, h3⟩ := ih j hj hp
      exact ⟨m, h1, h2, by omega⟩
    · exact ⟨k, h, fun j hj hp => e ⟨j, hj, hp⟩, Nat.le_refl k⟩
theorem head_of {ts : List (Nat × Nat)} {lot s : Nat} (hl : lot < 65536) (hs : lot.testBit s = true) : ∃ r ∈ heads ts lot, Reach ts lot r s := by
  obtain ⟨m, ⟨h1, h2⟩, h3, _⟩ := exists_least (p := fun r => lot.testBit r = true ∧ Reach ts lot r s) (k := s) ⟨hs, .here⟩
  exact ⟨m, (mem_heads hl).mpr ⟨h1, fun r hr hb z => h3 r hr ⟨hb, z.trans h2⟩⟩, h2⟩
end G

set_option Elab.async false
set_option linter.all false
set_option maxRecDepth 100000
set_option maxHeartbeats 1000000
namespace G
open PySem PySem.Spec PyProof.Rows L2 DC
theorem vc_is_integer : vS_is_integer := by
  intro as Q h
  unfold S_is_integer at h
  split at h
  · rename_i d
    cases d <;> simpa [w_is_integer, isInt] using h
  · exact h.elim
theorem vc_is_within : vS_is_within := by
  intro as Q h
  unfold S_is_within at h
  split at h
  · rename_i d lo hi
    cases d with
    | int i => by_cases z : lo ≤ i <;> simpa [w_is_within, S_is_integer, isInt, inB, z] using h
    | _ => simpa [w_is_within, S_is_integer, isInt, inB] using h
  · exact h.elim
theorem vc_is_row : vS_is_row := by
  intro as Q h
  unfold S_is_row at h
  split at h
  · rename_i d lo hi
    cases d with
    | tuple l => by_cases z : lo ≤ l.length <;> simpa [w_is_row, isRow, z] using h
    | _ => simpa [w_is_row, isRow] using h
  · exact h.elim
theorem len2 {α : Type} {l : List α} (h : l.length = 2) : ∃ a b, l = [a, b] := by
  match l, h with
  | [a, b], _ => exact ⟨a, b, rfl⟩
theorem vc_is_tie : vS_is_tie := by
  intro as Q h
  unfold S_is_tie at h
  split at h
  · rename_i n d
    by_cases hr : isRow 2 2 d = true
    · unfold isRow at hr
      split at hr
      · rename_i l
        simp at hr
        obtain ⟨a, b, rfl⟩ : ∃ a b, l = [a, b] := len2 (by omega)
        simp [w_is_tie, S_is_row, S_is_within, isRow]
        refine ⟨[inB 0 (n - 1) a, inB 0 (n - 1) b], rfl, ?_⟩
        simp [isTieB] at h
        cases ha : inB 0 (n - 1) a <;> cases hb : inB 0 (n - 1) b <;> simp [ha, hb] at h ⊢
        · exact h
        · exact h
        · exact h
        · unfold inB at ha hb
          split at ha
          · split at hb
            · simpa [ltI] using h
            · cases hb
          · cases ha
      · cases hr
    · simp [w_is_tie, S_is_row, hr]
      have e : isTieB n d = false := by
        unfold isTieB
        split
        · exact absurd (by simp [isRow]) hr
        · rfl
      rw [e] at h
      exact h
  · exact h.elim
theorem zip_iff {α : Type} {r : α → α → Prop} (tr : ∀ a b c, r a b → r b c → r a c) : ∀ {ts : List α}, (∀ p ∈ ts.zip ts.tail, r p.1 p.2) ↔ ts.Pairwise r
  | [] => by simp
  | [_] => by simp
  | a :: b :: l => by
    have ih := zip_iff tr (ts := b :: l)
    show (∀ p ∈ (a, b) :: (b :: l).zip l, r p.1 p.2) ↔ _
    simp only [List.tail_cons] at ih
    rw [List.forall_mem_cons, ih, List.pairwise_cons (a := a)]
    constructor
    · rintro ⟨h1, h2⟩
      refine ⟨fun x hx => ?_, h2⟩
      rcases List.mem_cons.mp hx with rfl | hx
      · exact h1
      · exact tr _ _ _ h1 ((List.pairwise_cons.mp h2).1 x hx)
    · rintro ⟨h1, h2⟩
      exact ⟨h1 b List.mem_cons_self, h2⟩
theorem all_id_map {α : Type} (p : α → Bool) (l : List α) : (l.map p).all id = l.all p := by simp [List.all_map]
theorem vc_is_rising : vS_is_rising := by
  intro as Q h
  unfold S_is_rising at h
  split at h
  · obtain ⟨hl, h⟩ := h
    rcases h with ⟨ts, rfl, h⟩ | ⟨ns, rfl, h⟩
    · have hz : zipD (ts.map tieD) (ts.tail.map tieD) = (ts.zip ts.tail).map fun p => .tuple [tieD p.1, tieD p.2] := by
        unfold zipD
        rw [List.zipWith_map, List.zip, List.map_zipWith]
      simp at hl
      simp [w_is_rising]
      rw [← List.map_tail, hz]
      refine ⟨by simp; omega, lcD_map (fun p : (Nat × Nat) × (Nat × Nat) => .tuple [tieD p.1, tieD p.2]) (fun p => some (.bool (decide (lexL p.1 p.2)))) (fun p hp N q => ?_) ?_⟩
      · simp [tieD]
        refine ⟨[(p.1.1 : Int), p.1.2], by simp, [(p.2.1 : Int), p.2.2], by simp, ?_⟩
        have e : HT.lexLt [(p.1.1 : Int), (p.1.2 : Int)] [(p.2.1 : Int), (p.2.2 : Int)] = decide (lexL p.1 p.2) := by
          simp only [HT.lexLt, lexL]
          by_cases h1 : p.1.1 = p.2.1
          · by_cases h2 : p.1.2 = p.2.2
            · simp [h1, h2]
            · have h2' : ¬ ((p.1.2 : Int) = p.2.2) := by omega
              simp [h1, h2']
          · have h1' : ¬ ((p.1.1 : Int) = p.2.1) := by omega
            simp [h1, h1']
        rw [e]
        simpa using q
      · simp
        refine ⟨(ts.zip ts.tail).map fun p => decide (lexL p.1 p.2), by simp, ?_⟩
        have e : (((ts.zip ts.tail).map fun p => decide (lexL p.1 p.2)).all id) = decide (ts.Pairwise lexL) := by
          rw [all_id_map, Bool.eq_iff_iff, List.all_eq_true]
          simp only [decide_eq_true_eq]
          exact zip_iff lexL_tr
        rw [e]
        exact h
    · have hz : zipD (natsD ns) (natsD ns.tail) = (ns.zip ns.tail).map fun p => .tuple [.int (p.1 : Int), .int (p.2 : Int)] := by
        unfold zipD natsD
        rw [List.zipWith_map, List.zip, List.map_zipWith]
      have ht : (natsD ns).tail = natsD ns.tail := by simp [natsD]
      simp at hl
      simp [w_is_rising]
      rw [ht, hz]
      refine ⟨by simp; omega, lcD_map (fun p : Nat × Nat => .tuple [.int (p.1 : Int), .int (p.2 : Int)]) (fun p => some (.bool (decide (p.1 < p.2)))) (fun p hp N q => ?_) ?_⟩
      · simp
        simpa using q
      · simp
        refine ⟨(ns.zip ns.tail).map fun p => decide (p.1 < p.2), by simp, ?_⟩
        have e : (((ns.zip ns.tail).map fun p => decide (p.1 < p.2)).all id) = decide (ns.Pairwise (· < ·)) := by
          rw [all_id_map, Bool.eq_iff_iff, List.all_eq_true]
          simp only [decide_eq_true_eq]
          exact zip_iff (r := (· < ·)) fun _ _ _ => Nat.lt_trans
        rw [e]
        exact h
  · exact h.elim
theorem vc_is_web_form : vS_is_web_form := by
  intro as Q h
  unfold S_is_web_form at h
  split at h
  · rename_i d
    obtain ⟨hs, h⟩ := h
    have fal : ∀ {b : Bool}, b = false → Q (.fz (.bool b)) → Q (.fz (.bool false)) := fun e z => by rw [e] at z; exact z
    by_cases hr : isRow 2 2 d = true
    · unfold isRow at hr
      split at hr
      · rename_i l
        simp at hr
        obtain ⟨a, b, rfl⟩ : ∃ a b, l = [a, b] := len2 (by omega)
        simp [w_is_web_form, S_is_row, S_is_within, isRow]
        cases ha : inB 0 10 a
        · simp
          refine fal ?_ h
          unfold isWebB
          split
          · rename_i n ds he
            have e1 := (List.cons.inj (PyData.tuple.inj he)).1
            rw [e1] at ha
            simp [inB] at ha
            simp
            intro z1 z2
            omega
          · rfl
        · simp
          unfold inB at ha
          split at ha
          · rename_i n
            simp at ha
            cases b with
            | tuple ds =>
              simp [smallW] at hs
              simp [isWebB, ha.1, ha.2] at h
              refine ⟨by omega, ?_⟩
              refine lcD_turns (fun d => some (.bool (isTieB n d))) (fun x hx N q => by simpa [S_is_tie] using q) ?_
              simp
              refine ⟨ds.map (isTieB n), by simp, ?_⟩
              cases e : ds.all (isTieB n)
              · rw [all_id_map, e]
                simp
                rw [e] at h
                simpa using h
              · rw [all_id_map, e]
                simp
                rw [e] at h
                simp at h
                have hds : ds = (ds.map tieOf).map tieD := by
                  rw [List.map_map]
                  conv => lhs; rw [← List.map_id ds]
                  apply List.map_congr_left
                  intro x hx
                  obtain ⟨p, rfl, _⟩ := isTieB_iff.mp (List.all_eq_true.mp e x hx)
                  show _ = tieD (tieOf (tieD p))
                  rw [tieOf_tieD]
                  rfl
                simp [S_is_rising]
                exact ⟨by omega, .inl ⟨ds.map tieOf, by simpa using hds, h⟩⟩
            | _ => simpa [isWebB] using h
          · cases ha
      · cases hr
    · simp [w_is_web_form, S_is_row, hr]
      refine fal ?_ h
      unfold isWebB
      split
      · exact absurd (by simp [isRow]) hr
      · rfl
  · exact h.elim
theorem small_web {n : Nat} {ts : List (Nat × Nat)} (ok : Ok n ts) : smallW (webD n ts) := by
  have := ok.few
  simp [smallW, webD]
  omega
theorem vc_need_web : vS_need_web := by
  intro as Q h
  unfold S_need_web at h
  split at h
  · obtain ⟨n, ts, rfl, h1, h⟩ := h
    simp [w_need_web, S_is_web_form, isWebB_web h1, small_web h1]
    exact h
  · exact h.elim
end G

set_option Elab.async false
set_option linter.all false
set_option maxRecDepth 100000
set_option maxHeartbeats 1000000
namespace G
open PySem PySem.Spec PyProof.Rows L2 DC
/-- the bits below a -/
def bitsTo (m a : Nat) : List Nat := (List.range a).filter fun i => m.testBit i
theorem bitsTo_succ (m a : Nat) : bitsTo m (a + 1) = bitsTo m a ++ (if m.testBit a then [a] else []) := by
  unfold bitsTo
  rw [List.range_succ, List.filter_append]
  cases e : m.testBit a <;> simp [e]
theorem bitsTo_end {m a : Nat} (ha : a ≤ 16) (h : m / 2 ^ a = 0) : bits m = bitsTo m a := by
  unfold bits bitsTo
  have : ∀ k, (List.range (a + k)).filter (fun i => m.testBit i) = (List.range a).filter fun i => m.testBit i := by
    intro k
    induction k with
    | zero => rfl
    | succ k ih =>
      rw [← Nat.add_assoc, List.range_succ, List.filter_append, ih]
      have hm : m < 2 ^ a := by
        rcases Nat.div_eq_zero_iff.mp h with z | z
        · exact absurd z (Nat.ne_of_gt (Nat.two_pow_pos a))
        · exact z
      have : m.testBit (a + k) = false := Nat.testBit_lt_two_pow (Nat.lt_of_lt_of_le hm (Nat.pow_le_pow_right (by decide) (Nat.le_add_right _ _)))
      simp [this]
  have := this (16 - a)
  rwa [show a + (16 - a) = 16 by omega] at this
theorem vc_things_of : vS_things_of := by
  intro as Q h
  unfold S_things_of at h
  split at h
  · obtain ⟨m, rfl, h1, h⟩ := h
    simp [w_things_of, lp1_things_of]
    refine ⟨fun k ρ => ∃ a : Nat, k = 17 - a ∧ a ≤ 16 ∧ (a = 16 → m / 2 ^ a = 0) ∧ ρ = [.fz (.int m), .ow (natsD (bitsTo m a)), .fz (.int a)], ⟨17, 0, by simp, by simp, by simp, rfl⟩, ?_⟩
    rintro k ρ ⟨a, rfl, ha, hz, rfl⟩
    simp
    have e : (m : Int) / 2 ^ a = ((m / 2 ^ a : Nat) : Int) := by simp
    have e1 : Builtin.bitAnd ((m / 2 ^ a : Nat) : Int) 1 = ((m / 2 ^ a % 2 : Nat) : Int) := by
      have := bitAnd_nat (m / 2 ^ a) 1
      simpa [Nat.and_one_is_mod] using this
    rw [e, e1]
    have hb : (bitsTo m a).length ≤ a := by
      unfold bitsTo
      exact Nat.le_trans (List.length_filter_le _ _) (by simp)
    have hs := bitsTo_succ m a
    have hsb := shr_bit m a
    have nz : a < 16 → a + 1 = 16 → m < 2 ^ (a + 1) := fun _ z => by rw [z]; exact h1
    by_cases c : 0 < m / 2 ^ a
    · have ha' : a < 16 := by
        rcases Nat.lt_or_eq_of_le ha with z | z
        · exact z
        · have := hz z
          omega
      rw [if_pos (by exact_mod_cast c)]
      by_cases b : m / 2 ^ a % 2 = 1
      · rw [if_pos (by exact_mod_cast b)]
        rw [if_pos (hsb.mp b)] at hs
        exact ⟨by omega, 17 - (a + 1), by omega, a + 1, rfl, by omega, fun z => nz ha' z, by rw [hs]; simp [natsD], by simp⟩
      · rw [if_neg (by exact_mod_cast b)]
        rw [if_neg (fun z => b (hsb.mpr z)), List.append_nil] at hs
        exact ⟨17 - (a + 1), by omega, a + 1, rfl, by omega, fun z => nz ha' z, by rw [hs], by simp⟩
    · rw [if_neg (by exact_mod_cast c)]
      rw [← bitsTo_end ha (Nat.eq_zero_of_not_pos c)]
      exact h
  · exact h.elim
theorem vc_least_of : vS_least_of := by
  intro as Q h
  unfold S_least_of at h
  split at h
  · obtain ⟨m, a, rfl, h1, h2, h⟩ := h
    simp [w_least_of, S_things_of]
    refine ⟨m, rfl, h1, ?_⟩
    have : (natsD (bits m))[0]? = some (.int (a : Int)) := by
      unfold natsD
      rw [List.getElem?_map, h2]
      rfl
    simp [atI_zero, this]
    exact h
  · exact h.elim
theorem vc_size_of : vS_size_of := by
  intro as Q h
  unfold S_size_of at h
  split at h
  · obtain ⟨m, rfl, h1, h⟩ := h
    simp [w_size_of, S_things_of]
    refine ⟨m, rfl, h1, ?_⟩
    simpa [natsD] using h
  · exact h.elim
theorem vc_lot_of : vS_lot_of := by
  intro as Q h
  unfold S_lot_of at h
  split at h
  · obtain ⟨m, rfl, h1, h⟩ := h
    simp [w_lot_of, S_things_of]
    exact ⟨m, rfl, h1, h⟩
  · exact h.elim
@[simp] theorem shaped_nats (l : List Nat) : SeqAt.shaped (.list (natsD l)) = true := by
  rw [natsD_ints]
  exact PySem.W.ke_shaped_ints _
@[simp] theorem many_ties (n : Nat) (ts : List (Nat × Nat)) : List.lookup (Str.ofString "many") (tiesF n ts) = some (.int (n : Int)) := rfl
@[simp] theorem to_ties (n : Nat) (ts : List (Nat × Nat)) : List.lookup (Str.ofString "to") (tiesF n ts) = some (.list ((List.range n).map fun v => .int (nb ts v : Int))) := rfl
@[simp] theorem whole_ties (n : Nat) (ts : List (Nat × Nat)) : List.lookup (Str.ofString "whole") (tiesF n ts) = some (.int (full n : Int)) := rfl
theorem to_at {n v : Nat} {ts : List (Nat × Nat)} (h : v < n) : atI ((List.range n).map fun v => PyData.int (nb ts v : Int)) (v : Int) = some (.int (nb ts v : Int)) := by
  rw [atI_n, List.getElem?_map, List.getElem?_range h]
  rfl
theorem piece_ties (n : Nat) (ts : List (Nat × Nat)) : List.lookup (Str.ofString "piece_of") (tiesF n ts) = none := rfl
theorem pieces_ties (n : Nat) (ts : List (Nat × Nat)) : List.lookup (Str.ofString "pieces") (tiesF n ts) = none := rfl
/-- the state of a search -/
structure Find (ts : List (Nat × Nat)) (lot s F : Nat) (fs W : List Nat) : Prop where
  bit : ∀ i, F.testBit i = true ↔ i ∈ fs
  nd : fs.Nodup
  lt : ∀ i ∈ fs, lot.testBit i = true
  here : s ∈ fs
  re : ∀ i ∈ fs, Reach ts lot s i
  sub : ∀ i ∈ W, i ∈ fs
  cl : ∀ v ∈ fs, v ∉ W → ∀ u, tied ts v u = true → lot.testBit u = true → u ∈ fs
  wl : W.length ≤ fs.length
theorem Find.few {ts : List (Nat × Nat)} {lot s F n : Nat} {fs W : List Nat} (f : Find ts lot s F fs W) (h : lot < 2 ^ n) (hn : n ≤ 10) : fs.length ≤ 16 := by
  have := len_le_of_sub (r := List.range 16) f.nd fun x hx => List.mem_range.mpr (by have := bit_lt h (f.lt x hx); omega)
  simpa using this
theorem Find.flt {ts : List (Nat × Nat)} {lot s F n : Nat} {fs W : List Nat} (f : Find ts lot s F fs W) (h : lot < 2 ^ n) : F < 2 ^ n := lt_of_bits fun i hi => bit_lt h (f.lt i ((f.bit i).mp hi))
theorem Find.piece {ts : List (Nat × Nat)} {lot s F : Nat} {fs : List Nat} (f : Find ts lot s F fs []) : IsPiece ts lot s F := fun i => by
  rw [f.bit]
  constructor
  · exact f.re i
  · intro r
    induction r with
    | here => exact f.here
    | go _ t l ih => exact f.cl _ ih (by simp) _ t l
/-- what is new from v -/
theorem Find.next {ts : List (Nat × Nat)} {lot s F v : Nat} {fs W xs : List Nat} (f : Find ts lot s F fs (W ++ [v])) (hx : ∀ u, u ∈ xs ↔ (tied ts v u = true ∧ lot.testBit u = true ∧ u ∉ fs)) (nd : xs.Nodup) (F' : Nat) (hF : ∀ i, F'.testBit i = true ↔ (i ∈ fs ∨ i ∈ xs)) :
    Find ts lot s F' (fs ++ xs) (W ++ xs) where
  bit := fun i => by rw [hF, List.mem_append]
  nd := by
    rw [List.nodup_append]
    exact ⟨f.nd, nd, fun a ha b hb e => ((hx b).mp hb).2.2 (e ▸ ha)⟩
  lt := fun i hi => by
    rcases List.mem_append.mp hi with z | z
    · exact f.lt i z
    · exact ((hx i).mp z).2.1
  here := List.mem_append_left _ f.here
  re := fun i hi => by
    rcases List.mem_append.mp hi with z | z
    · exact f.re i z
    · have := (hx i).mp z
      exact .go (f.re v (f.sub v (by simp))) this.1 this.2.1
  sub := fun i hi => by
    rcases List.mem_append.mp hi with z | z
    · exact List.mem_append_left _ (f.sub i (List.mem_append_left _ z))
    · exact List.mem_append_right _ z
  cl := fun w hw hn u ht hl => by
    rw [List.mem_append] at hw hn ⊢
    by_cases hu : u ∈ fs
    · exact .inl hu
    · rcases hw with z | z
      · by_cases e : w = v
        · subst e
          exact .inr ((hx u).mpr ⟨ht, hl, hu⟩)
        · exact .inl (f.cl w z (by simp only [List.mem_append, List.mem_singleton]; rintro (q | q); exact hn (.inl q); exact e q) u ht hl)
      · exact absurd (.inr z) hn
  wl := by
    have := f.wl
    simp only [List.length_append, List.length_singleton] at this ⊢
    omega
theorem vc_Ties_piece_of (C_Ties : Addr) : vS_Ties_piece_of C_Ties := by
  intro as Q h
  unfold S_Ties_piece_of at h
  split at h
  · rename_i C' fs' k' l'
    obtain ⟨hC, n, ts, s, lot, rfl, ok, rfl, rfl, hlot, hs, h⟩ := h
    have hsn : s < n := bit_lt hlot hs
    have n10 := ok.n10
    simp [w_Ties_piece_of, lp1_Ties_piece_of, lp2_Ties_piece_of, CPow]
    refine ⟨by omega, fun k ρ => ∃ F fs W x, k = 2 * (16 - fs.length) + W.length ∧ Find ts lot s F fs W ∧ ρ = [.ob C' (tiesF n ts), .fz (.int s), .fz (.int lot), .fz (.int (F : Nat)), .ow (natsD W), x], ⟨_, 2 ^ s, [s], [s], .un, rfl, ⟨fun i => by rw [testBit_pow]; simp [eq_comm], by simp, by simpa using hs, by simp, by simpa using Reach.here, by simp, by simp, by simp⟩, by simp [natsD]⟩, ?_⟩
    rintro k ρ ⟨F, fs, W, x, rfl, fd, rfl⟩
    simp
    by_cases hW : W = []
    · subst hW
      simp
      rw [comp_eq (pow_16 hlot n10) hs fd.piece] at h
      exact h
    · simp [hW]
      refine ⟨hC, ?_⟩
      obtain ⟨W0, v, rfl⟩ : ∃ W0 v, W = W0 ++ [v] := ⟨W.dropLast, W.getLast hW, (List.dropLast_concat_getLast hW).symm⟩
      have hv : v < n := bit_lt hlot (fd.lt v (fd.sub v (by simp)))
      have e1 : (natsD (W0 ++ [v]))[(W0 ++ [v]).length - 1]? = some (.int (v : Int)) := by
        rw [natsD_get]
        simp
      have e2 : (natsD (W0 ++ [v])).dropLast = natsD W0 := by simp [natsD]
      rw [e1]
      simp only []
      rw [to_at hv]
      simp [S_things_of]
      refine ⟨_, rfl, ?_, ?_⟩
      · refine Nat.lt_of_le_of_lt (Nat.sub_le _ _) (Nat.lt_of_le_of_lt Nat.and_le_left (pow_16 (nb_lt ok v) n10))
      have hx16 : without (nb ts v &&& lot) F < 65536 := Nat.lt_of_le_of_lt (Nat.sub_le _ _) (Nat.lt_of_le_of_lt Nat.and_le_left (pow_16 (nb_lt ok v) n10))
      generalize hxs : bits (without (nb ts v &&& lot) F) = xs
      have hx : ∀ u, u ∈ xs ↔ (tied ts v u = true ∧ lot.testBit u = true ∧ u ∉ fs) := fun u => by
        rw [← hxs, mem_bits hx16, testBit_without, Nat.testBit_and, testBit_nb ok.ne, ← fd.bit]
        cases tied ts v u <;> cases lot.testBit u <;> cases F.testBit u <;> simp
      have ndx : xs.Nodup := hxs ▸ nodup_bits _
      have fd' := fd.next hx ndx (orAll F xs) fun i => by rw [testBit_orAll, fd.bit]
      have few := fd'.few hlot n10
      rw [List.length_append] at few
      refine forD_inv (fun i ρ => ∃ x, ρ = [.ob C' (tiesF n ts), .fz (.int s), .fz (.int lot), .fz (.int (orAll F (xs.take i) : Nat)), .ow (natsD (W0 ++ xs.take i)), x]) ⟨x, by simp [orAll, natsD]⟩ ?_ ?_
      · rintro i d ρ hd ⟨x', rfl⟩ N hN
        rw [natsD_get] at hd
        cases hxi : xs[i]? with
        | none => rw [hxi] at hd; cases hd
        | some u =>
          rw [hxi] at hd
          cases hd
          have hil : i < xs.length := (List.getElem?_eq_some_iff.mp hxi).1
          have hu : u < n := bit_lt hlot (((hx u).mp (List.mem_of_getElem? hxi)).2.1)
          have ht : xs.take (i + 1) = xs.take i ++ [u] := by rw [List.take_add_one, hxi]; rfl
          simp [CPow]
          have e3 := bitOr_nat (orAll F (xs.take i)) (2 ^ u)
          have e4 : ((2 ^ u : Nat) : Int) = 2 ^ u := by simp
          rw [e4] at e3
          rw [e3]
          refine ⟨by omega, ?_, hN _ ⟨.fz (.int (u : Int)), ?_⟩⟩
          · have h5 := fd.wl
            simp only [List.length_append, List.length_singleton] at h5
            omega
          · rw [ht, orAll_snoc]
            simp [natsD]
      · rintro ρ ⟨x', rfl⟩
        rw [natsD_len, List.take_length]
        refine ⟨2 * (16 - (fs ++ xs).length) + (W0 ++ xs).length, ?_, orAll F xs, fs ++ xs, W0 ++ xs, rfl, fd', x', by simp [natsD]⟩
        rw [List.length_append, List.length_append]
        omega
  · exact h.elim
/-- the next piece -/
theorem next_head {ts : List (Nat × Nat)} {lot L i a : Nat} (hl : lot < 65536) (hL : ∀ b, L.testBit b = true ↔ (lot.testBit b = true ∧ ∀ r ∈ (heads ts lot).take i, ¬ Reach ts lot r b))
    (ha : (bits L)[0]? = some a) : (heads ts lot)[i]? = some a := by
  have hLl : L < 65536 := lt_16 (n := 16) (lt_of_bits fun b hb => bit_lt (show lot < 2 ^ 16 from hl) ((hL b).mp hb).1) (by omega)
  obtain ⟨R, hR⟩ : ∃ R, bits L = a :: R := by
    cases e : bits L with
    | nil => rw [e] at ha; cases ha
    | cons x R => rw [e] at ha; cases ha; exact ⟨R, rfl⟩
  have asc := asc_bits L
  rw [hR] at asc
  have hmin : ∀ b, L.testBit b = true → a ≤ b := fun b hb => by
    have := (mem_bits hLl).mpr hb
    rw [hR] at this
    rcases List.mem_cons.mp this with rfl | z
    · exact Nat.le_refl _
    · exact Nat.le_of_lt ((List.pairwise_cons.mp asc).1 b z)
  have haL : L.testBit a = true := (mem_bits hLl).mp (by rw [hR]; exact List.mem_cons_self)
  have ah := asc_heads ts lot
  have split := List.take_append_drop i (heads ts lot)
  have lt : ∀ r ∈ (heads ts lot).take i, ∀ s ∈ (heads ts lot).drop i, r < s := by
    rw [← split] at ah
    exact (List.pairwise_append.mp ah).2.2
  have inL : ∀ s ∈ (heads ts lot).drop i, L.testBit s = true := fun s hs => by
    have hh := (mem_heads hl).mp (List.mem_of_mem_drop hs)
    exact (hL s).mpr ⟨hh.1, fun r hr => hh.2 r (lt r hr s hs) ((mem_heads hl).mp (List.mem_of_mem_take hr)).1⟩
  have hah : a ∈ heads ts lot := (mem_heads hl).mpr ⟨((hL a).mp haL).1, fun r hr hb z => by
    have hrL : ¬ L.testBit r = true := fun w => by have := hmin r w; omega
    apply hrL
    refine (hL r).mpr ⟨hb, fun q hq w => ((hL a).mp haL).2 q hq (w.trans z)⟩⟩
  have had : a ∈ (heads ts lot).drop i := by
    rw [← split] at hah
    rcases List.mem_append.mp hah with z | z
    · exact absurd .here (((hL a).mp haL).2 a z)
    · exact z
  cases e : (heads ts lot).drop i with
  | nil => rw [e] at had; cases had
  | cons b rest =>
    have hb : b ∈ (heads ts lot).drop i := by rw [e]; exact List.mem_cons_self
    have h1 := hmin b (inL b hb)
    have h2 : a = b := by
      rw [e] at had
      rcases List.mem_cons.mp had with z | z
      · exact z
      · have p := ah.sublist (List.drop_sublist i _)
        rw [e] at p
        have := (List.pairwise_cons.mp p).1 a z
        omega
    have := List.getElem?_drop (xs := heads ts lot) (i := i) (j := 0)
    rw [e] at this
    rw [h2]
    simpa using this.symm
theorem bits_zero : bits 0 = [] := by decide +kernel
theorem bits_pos {L : Nat} (h : L ≠ 0) (h16 : L < 65536) : ∃ a, (bits L)[0]? = some a := by
  cases e : bits L with
  | nil =>
    exfalso
    apply h
    rw [← orAll_bits h16, e]
    rfl
  | cons a r => exact ⟨a, rfl⟩
theorem vc_Ties_pieces (C_Ties : Addr) : vS_Ties_pieces C_Ties := by
  intro as Q h
  unfold S_Ties_pieces at h
  split at h
  · rename_i C' fs' l'
    obtain ⟨hC, n, ts, lot, rfl, ok, rfl, hlot, h⟩ := h
    have n10 := ok.n10
    have hl := pow_16 hlot n10
    have hp := piece_ties n ts
    simp at hp
    simp [w_Ties_pieces, lp1_Ties_pieces]
    refine ⟨fun k ρ => ∃ (i L : Nat) (x : Sl), k = (heads ts lot).length - i ∧ i ≤ (heads ts lot).length ∧ (∀ b, L.testBit b = true ↔ (lot.testBit b = true ∧ ∀ r ∈ (heads ts lot).take i, ¬ Reach ts lot r b)) ∧
      ρ = [.ob C' (tiesF n ts), .fz (.int (lot : Nat)), .ow (natsD ((pcs ts lot).take i)), .fz (.int (L : Nat)), x], ⟨_, 0, lot, .un, rfl, by omega, by simp, rfl⟩, ?_⟩
    rintro k ρ ⟨i, L, x, rfl, hi, hL, rfl⟩
    have hLl : L < 2 ^ n := lt_of_bits fun b hb => bit_lt hlot ((hL b).mp hb).1
    simp
    by_cases hz : L = 0
    · subst hz
      simp
      have e : (pcs ts lot).take i = pcs ts lot := by
        refine List.take_of_length_le ?_
        unfold pcs
        rw [List.length_map]
        rcases Nat.lt_or_ge i (heads ts lot).length with z | z
        · have hm : (heads ts lot)[i] ∈ heads ts lot := List.getElem_mem z
          have hh := (mem_heads hl).mp hm
          have : (0 : Nat).testBit (heads ts lot)[i] = true := (hL _).mpr ⟨hh.1, fun r hr => by
            obtain ⟨j, hj, e⟩ := List.mem_take_iff_getElem.mp hr
            have hji : j < i := by omega
            have := (List.pairwise_iff_getElem.mp (asc_heads ts lot)) j i (by omega) z hji
            rw [e] at this
            exact hh.2 r this ((mem_heads hl).mp (List.mem_of_mem_take hr)).1⟩
          simp at this
        · exact z
      rw [e]
      exact h
    · rw [if_neg (by omega)]
      obtain ⟨a, ha⟩ := bits_pos hz (pow_16 hLl n10)
      have hn := next_head hl hL ha
      have hil := (List.getElem?_eq_some_iff.mp hn).1
      have hah := (mem_heads hl).mp (List.mem_of_getElem? hn)
      have ht : (heads ts lot).take (i + 1) = (heads ts lot).take i ++ [a] := by rw [List.take_add_one, hn]; rfl
      have h16 := heads_len ts lot
      have hpt : (pcs ts lot).take (i + 1) = (pcs ts lot).take i ++ [comp ts lot a] := by
        have : (pcs ts lot)[i]? = some (comp ts lot a) := by unfold pcs; rw [List.getElem?_map, hn]; rfl
        rw [List.take_add_one, this]
        rfl
      refine ⟨⟨hC, hp⟩, ?_⟩
      simp [S_least_of, S_Ties_piece_of]
      refine ⟨L, rfl, pow_16 hLl n10, a, ha, hC, n, ts, rfl, ok, a, rfl, lot, rfl, hlot, hah.1, by omega, ?_⟩
      refine ⟨(heads ts lot).length - (i + 1), by omega, i + 1, rfl, by omega, DC.without L (comp ts lot a), fun b => ?_, by rw [hpt]; simp [natsD]⟩
      rw [testBit_without, ht]
      have hc := bit_comp (ts := ts) (i := b) hl hah.1
      have hLb := hL b
      constructor
      · intro z
        simp at z
        obtain ⟨z1, z2⟩ := z
        obtain ⟨z3, z4⟩ := hLb.mp z1
        refine ⟨z3, fun r hr => ?_⟩
        rcases List.mem_append.mp hr with q | q
        · exact z4 r q
        · rw [List.mem_singleton.mp q]
          intro w
          rw [hc.mpr w] at z2
          cases z2
      · rintro ⟨z1, z2⟩
        have z3 : L.testBit b = true := hLb.mpr ⟨z1, fun r hr => z2 r (List.mem_append_left _ hr)⟩
        have z4 : (comp ts lot a).testBit b = false := by
          cases e : (comp ts lot a).testBit b with
          | false => rfl
          | true => exact absurd (hc.mp e) (z2 a (by simp))
        simp [z3, z4]
  · exact h.elim
end G

set_option Elab.async false
set_option linter.all false
set_option maxRecDepth 100000
set_option maxHeartbeats 1000000
/-! Ties(web): what __init__ does. -/
namespace G
open PySem PySem.Spec PyProof.Rows L2 DC
def rGetL (K : PySem.W.Frag) : V → V → Hp → VK → Prop := fun o i H Q => ∃ p xs j v, o = .ref p ∧ i = .int (j : Nat) ∧ SqL K H p xs ∧ xs[j]? = some v ∧ Q v H
theorem get_listJ {X : Cx} : PGet X (rGetL X.K) := by
  intro pins s σ H o i ov iv Q I ro ri h
  obtain ⟨p, xs, j, v, rfl, rfl, hq, he, q⟩ := h
  cases ro
  obtain ⟨t, rfl⟩ := ri
  obtain ⟨its, r, pl, hz⟩ := I.list hq
  obtain ⟨w, ew, rw'⟩ := r.get he
  have hjl := (List.getElem?_eq_some_iff.mp ew).1
  have hn := line63
  have hl := r.length
  exact wpAny_getItem_list pl.isList (by omega) (by simp; omega) (by simpa using ew) ⟨v, H, I, rw', q⟩
theorem ip_or {X : Cx} : PIp X .BitOr (ipI Builtin.bitOr) := by
  intro pins s σ H x y v u Q I r1 r2 h
  obtain ⟨i, j, e1, e2, q⟩ := h
  subst e1
  subst e2
  obtain ⟨t, rfl⟩ := r1
  obtain ⟨t', rfl⟩ := r2
  exact ior_int ⟨.int _, H, I.tok _, ⟨_, rfl⟩, q⟩
def rShlR : R2 := rI CPow fun i j => .int (i * 2 ^ j.toNat)
def rSubR : R2 := rI0 fun i j => .int (i - j)
def t_aug (K : PySem.W.Frag) (i j : Nat) : TS := tAugS (tFld K (tVar 0) "to") (tVar i) (tOp rShlR (tC (.int 1)) (tVar j)) (rGetL K) (ipI Builtin.bitOr) rSetL
def t_init (K : PySem.W.Frag) : TS := tSeq (sFld K (tVar 0) (tOp (rIx K) (tVar 1) (tC (.int 0))) "many")
  (tSeq (sFld K (tVar 0) (tOp rRep (tLst (tCons (tC (.int 0)) tNil)) (tOp (rIx K) (tVar 1) (tC (.int 0)))) "to")
  (tSeq (tFor (iAny K (tOp (rIx K) (tVar 1) (tC (.int 1)))) (gTup K 2 (gCons (gName 2) (gCons (gName 3) gNil))) (tSeq (t_aug K 2 3) (t_aug K 3 2)))
    (sFld K (tVar 0) (tOp rSubR (tOp rShlR (tC (.int 1)) (tOp (rIx K) (tVar 1) (tC (.int 0)))) (tC (.int 1))) "whole")))
def masks (n : Nat) (ts : List (Nat × Nat)) : List V := (List.range n).map fun v => V.int (nb ts v : Int)
def tiesV (n : Nat) (l : Addr) : List (Str × V) := [("many", .int (n : Int)), ("to", .ref l), ("whole", .int (full n : Int))]
def spInit (K : PySem.W.Frag) (C : Addr) : Sp := fun vs H Q _ => ∃ (x dx : Addr) (w0 : V) (n : Nat) (ts : List (Nat × Nat)) (G : Hp), vs = [.ref x, w0] ∧ H x = some (.ins C dx []) ∧ Same G H ∧ G x = none ∧ Dp K G w0 (webD n ts) ∧ Ok n ts ∧
  ∀ (H' : Hp) (l : Addr), (∀ b o, b ≠ x → H b = some o → H' b = some o) → H l = none → H' l = some (.lst (masks n ts)) → H' x = some (.ins C dx (tiesV n l)) → Q .non H'
theorem nb_snoc (ts : List (Nat × Nat)) (p : Nat × Nat) (v : Nat) : nb (ts ++ [p]) v = if p.1 = v then nb ts v ||| 2 ^ p.2 else if p.2 = v then nb ts v ||| 2 ^ p.1 else nb ts v := by
  unfold nb
  rw [List.foldl_append]
  rfl
theorem masks_len (n : Nat) (ts : List (Nat × Nat)) : (masks n ts).length = n := by simp [masks]
theorem masks_get {n v : Nat} (ts : List (Nat × Nat)) (h : v < n) : (masks n ts)[v]? = some (.int (nb ts v : Int)) := by
  unfold masks
  rw [List.getElem?_map, List.getElem?_range h]
  rfl
theorem masks_snoc {n a b : Nat} (ts : List (Nat × Nat)) (ha : a < n) (hb : b < n) (hab : a ≠ b) : masks n (ts ++ [(a, b)]) = ((masks n ts).set a (.int ((nb ts a ||| 2 ^ b : Nat) : Int))).set b (.int ((nb ts b ||| 2 ^ a : Nat) : Int)) := by
  apply List.ext_getElem?
  intro i
  by_cases hi : i < n
  · rw [masks_get _ hi, nb_snoc]
    simp only
    by_cases h1 : b = i
    · subst h1
      rw [List.getElem?_set_self (by rw [List.length_set, masks_len]; exact hi), if_neg hab, if_pos rfl]
    · rw [List.getElem?_set_ne h1]
      by_cases h2 : a = i
      · subst h2
        rw [List.getElem?_set_self (by rw [masks_len]; exact hi), if_pos rfl]
      · rw [List.getElem?_set_ne h2, masks_get _ hi, if_neg h2, if_neg h1]
  · rw [List.getElem?_eq_none (by rw [masks_len]; omega), List.getElem?_eq_none (by rw [List.length_set, List.length_set, masks_len]; omega)]
theorem aug_run {K : PySem.W.Frag} {C x dx l : Addr} {i j a b m : Nat} {σ : L2.St} {H : Hp} {ns : List V} {fs : List (Str × V)} (hC : Cls K C) (hn : NoAttr K C "to") (D : Ends)
    (h0 : σ[0]? = some (some (.ref x))) (hi : σ[i]? = some (some (.int (a : Int)))) (hj : σ[j]? = some (some (.int (b : Int)))) (hx : H x = some (.ins C dx fs)) (hf : List.lookup (Str.ofString "to") fs = some (V.ref l)) (hl : H l = some (.lst ns)) (hb : b ≤ 1000) (hz : ns.length ≤ 1000)
    (ha : ns[a]? = some (.int (m : Int))) (q : D.nx σ (upd H l (.lst (ns.set a (.int ((m ||| 2 ^ b : Nat) : Int)))))) : t_aug K i j D σ H := by
  refine ⟨_, h0, x, C, dx, fs, _, rfl, hx, hC, hn, hf, ?_⟩
  refine ⟨_, hi, ?_⟩
  refine ⟨l, ns, a, _, rfl, rfl, .of hl, ha, ?_⟩
  refine ⟨_, hj, 1, (b : Int), rfl, rfl, ⟨by omega, by omega, by decide⟩, ?_⟩
  refine ⟨(m : Int), _, rfl, rfl, l, ns, (a : Int), a, rfl, rfl, hl, ?_, ?_⟩
  · have := (List.getElem?_eq_some_iff.mp ha).1
    unfold ixN
    rw [if_pos (by omega), if_pos (by omega)]
    rfl
  · have e : Builtin.bitOr (m : Int) (1 * 2 ^ (b : Int).toNat) = ((m ||| 2 ^ b : Nat) : Int) := by
      rw [Int.one_mul, Int.toNat_natCast, show (2 : Int) ^ b = ((2 ^ b : Nat) : Int) by simp]
      exact bitOr_nat m (2 ^ b)
    rw [e]
    exact q
theorem pure_init {K : PySem.W.Frag} {C : Addr} (hC : Cls K C) (h1 : NoAttr K C "many") (h2 : NoAttr K C "to") (h3 : NoAttr K C "whole") (vs : List V) (H : Hp) (Q : VK) (E : XK) (h : spInit K C vs H Q E) : t_init K { nx := fun _ H' => Q .non H', rt := Q } (start ["self", "web", "one", "other"] vs) H := by
  obtain ⟨x, dx, w0, n, ts, G, rfl, hx, sG, gx, hd, ok, q⟩ := h
  have n10 := ok.n10
  obtain ⟨wa, ws, rfl, s0, al⟩ := dp_tupI hd
  obtain ⟨v0, v1, rfl⟩ : ∃ v0 v1, ws = [v0, v1] := by
    have := al.len
    match ws, this with
    | [a, b], _ => exact ⟨a, b, rfl⟩
  cases al with
  | cons a0 al =>
    cases al with
    | cons a1 al =>
      cases al
      cases a0
      obtain ⟨ta, tv, rfl, s1, al⟩ := dp_tupI a1
      -- web[0], web[1] in any heap that keeps G
      have web0 : ∀ {H' : Hp} {σ : L2.St} {R : VK}, Same G H' → σ[1]? = some (some (.ref wa)) → R (.int (n : Int)) H' → tOp (rIx K) (tVar 1) (tC (.int 0)) σ H' R := fun {H' σ R} s e r =>
        ⟨_, e, .inr (.inl ⟨wa, [.int (n : Int), .ref ta], 0, _, rfl, rfl, sqt_mono s s0, by simp [L2.atI, ixN], r⟩)⟩
      have web1 : ∀ {H' : Hp} {σ : L2.St} {R : VK}, Same G H' → σ[1]? = some (some (.ref wa)) → R (.ref ta) H' → tOp (rIx K) (tVar 1) (tC (.int 1)) σ H' R := fun {H' σ R} s e r =>
        ⟨_, e, .inr (.inl ⟨wa, [.int (n : Int), .ref ta], 1, _, rfl, rfl, sqt_mono s s0, by simp [L2.atI, ixN], r⟩)⟩
      have neG : ∀ {b : Addr}, G b = none → ∀ {c : Addr} {o : HO}, G c = some o → c ≠ b := fun {b} hb {c} {o} hc e => by
        rw [e, hb] at hc
        cases hc
      refine web0 sG rfl ⟨_, rfl, x, C, dx, [], rfl, hx, hC, h1, by simp, ?_⟩
      -- behind self.many
      have g1 : Same G (upd H x (.ins C dx (putF "many" (.int (n : Int)) []))) := fun c o hc => by rw [upd_ne (neG gx hc)]; exact sG c o hc
      refine ⟨by decide, fun p hp => ?_⟩
      have px : p ≠ x := fun e => by rw [e, upd_same] at hp; cases hp
      have hpH : H p = none := by rwa [upd_ne px] at hp
      have gp : G p = none := by
        cases e : G p with
        | none => rfl
        | some o => rw [sG p o e] at hpH; cases hpH
      have g2 : Same G (upd (upd H x (.ins C dx (putF "many" (.int (n : Int)) []))) p (.lst [.int 0])) := fun c o hc => by rw [upd_ne (neG gp hc)]; exact g1 c o hc
      refine web0 g2 rfl ?_
      refine ⟨p, (n : Int), [.int 0], rfl, rfl, upd_same, by omega, by omega, ?_, fun l hl => ?_⟩
      · exact Nat.le_trans (show 1 * (n : Int).toNat ≤ 1000 by omega) (by rw [sizeLine_eq]; decide)
      have lp : l ≠ p := fun e => by rw [e, upd_same] at hl; cases hl
      have hl1 : upd H x (.ins C dx (putF "many" (.int (n : Int)) [])) l = none := by rwa [upd_ne lp] at hl
      have lx : l ≠ x := fun e => by rw [e, upd_same] at hl1; cases hl1
      have hlH : H l = none := by rwa [upd_ne lx] at hl1
      have gl : G l = none := by
        cases e : G l with
        | none => rfl
        | some o => rw [sG l o e] at hlH; cases hlH
      generalize hH3 : upd (upd (upd H x (.ins C dx (putF "many" (.int (n : Int)) []))) p (.lst [.int 0])) l (.lst (List.replicate (n : Int).toNat [V.int 0]).flatten) = H3
      have g3 : Same G H3 := fun c o hc => by rw [← hH3, upd_ne (neG gl hc)]; exact g2 c o hc
      have x3 : H3 x = some (.ins C dx [("many", .int (n : Int))]) := by
        rw [← hH3, upd_ne (Ne.symm lx), upd_ne (Ne.symm px), upd_same]
        rfl
      have l3 : H3 l = some (.lst (masks n [])) := by
        rw [← hH3, upd_same]
        have e : (List.replicate (n : Int).toNat [V.int 0]).flatten = masks n [] := by
          rw [Int.toNat_natCast]
          unfold masks nb
          simp [List.flatten_replicate_singleton, List.map_const']
        rw [e]
      have k3 : ∀ b o, b ≠ x → H b = some o → H3 b = some o := fun b o hb ho => by
        have bl : b ≠ l := fun e => by rw [e, hlH] at ho; cases ho
        have bp : b ≠ p := fun e => by rw [e, hpH] at ho; cases ho
        rw [← hH3, upd_ne bl, upd_ne bp, upd_ne hb]
        exact ho
      refine ⟨_, rfl, x, C, dx, _, rfl, x3, hC, h2, by simp, ?_⟩
      -- behind self.to
      generalize hH4 : upd H3 x (.ins C dx (putF "to" (.ref l) [("many", .int (n : Int))])) = H4
      have g4 : Same G H4 := fun c o hc => by rw [← hH4, upd_ne (neG gx hc)]; exact g3 c o hc
      have x4 : H4 x = some (.ins C dx [("many", .int (n : Int)), ("to", .ref l)]) := by rw [← hH4, upd_same]; rfl
      have l4 : H4 l = some (.lst (masks n [])) := by rw [← hH4, upd_ne lx]; exact l3
      have k4 : ∀ b o, b ≠ x → H b = some o → H4 b = some o := fun b o hb ho => by rw [← hH4, upd_ne hb]; exact k3 b o hb ho
      refine web1 g4 rfl ⟨ta, rfl, .inr ⟨⟨tv, sqt_mono g4 s1⟩, ?_⟩⟩
      have tl := al.len
      rw [List.length_map] at tl
      refine ⟨fun i m σ H' => i ≤ ts.length ∧ m = ts.length - i ∧ (∃ y z, σ = [some (.ref x), some (.ref wa), y, z]) ∧ Same G H' ∧ H' x = some (.ins C dx [("many", .int (n : Int)), ("to", .ref l)]) ∧ H' l = some (.lst (masks n (ts.take i))) ∧ (∀ b o, b ≠ x → H b = some o → H' b = some o),
        ⟨ts.length, Nat.zero_le _, rfl, ⟨none, none, rfl⟩, g4, x4, by simpa using l4, k4⟩, ?_⟩
      rintro i m σ H5 ⟨hi, rfl, ⟨y, z, rfl⟩, g5, x5, l5, k5⟩
      by_cases hlt : i < ts.length
      · have hti : ts[i]? = some ts[i] := List.getElem?_eq_getElem hlt
        obtain ⟨tw, et, dt⟩ := al.at_ (i := i) (d := tieD ts[i]) (by rw [List.getElem?_map, hti]; rfl)
        refine .inr ⟨⟨tv, tw, sqt_mono g5 s1, et⟩, fun σ' H' => i + 1 ≤ ts.length ∧ (∃ y z, σ' = [some (.ref x), some (.ref wa), y, z]) ∧ Same G H' ∧ H' x = some (.ins C dx [("many", .int (n : Int)), ("to", .ref l)]) ∧ H' l = some (.lst (masks n (ts.take (i + 1)))) ∧ (∀ b o, b ≠ x → H b = some o → H' b = some o), ?_, ?_⟩
        · rintro σ' H' ⟨a1, a2, a3, a4, a5, a6⟩
          exact ⟨ts.length - (i + 1), by omega, a1, rfl, a2, a3, a4, a5, a6⟩
        · rintro u H' ⟨rfl, hu⟩
          have eu := hu tv (sqt_mono g5 s1)
          rw [et] at eu
          cases eu
          have htm := ok.tie ts[i] (List.getElem_mem hlt)
          obtain ⟨pa, pv, rfl, sp, alp⟩ := dp_tupI dt
          obtain ⟨b0, b1, rfl⟩ : ∃ v0 v1, pv = [v0, v1] := by
            have := alp.len
            match pv, this with
            | [a, b], _ => exact ⟨a, b, rfl⟩
          cases alp with
          | cons c0 alp =>
            cases alp with
            | cons c1 alp =>
              cases alp
              cases c0
              cases c1
              refine ⟨pa, _, rfl, sqt_mono g5 sp, rfl, _, _, rfl, _, _, rfl, rfl, ?_⟩
              have e1 : ts.take (i + 1) = ts.take i ++ [(ts[i].1, ts[i].2)] := by rw [List.take_add_one, hti]; rfl
              refine aug_run (m := nb (ts.take i) ts[i].1) hC h2 _ rfl rfl rfl x5 rfl l5 (by omega) (by rw [masks_len]; omega) (masks_get _ (by omega)) ?_
              refine aug_run (m := nb (ts.take i) ts[i].2) hC h2 _ rfl rfl rfl (by rw [upd_ne (Ne.symm lx)]; exact x5) rfl upd_same (by omega) (by rw [List.length_set, masks_len]; omega) (by rw [List.getElem?_set_ne (by omega)]; exact masks_get _ (by omega)) ?_
              refine ⟨hlt, ⟨_, _, rfl⟩, fun c o hc => ?_, ?_, ?_, fun b o hb ho => ?_⟩
              · rw [upd_ne (neG gl hc), upd_ne (neG gl hc)]; exact g5 c o hc
              · rw [upd_ne (Ne.symm lx), upd_ne (Ne.symm lx)]; exact x5
              · rw [upd_same, e1, masks_snoc _ (by omega) (by omega) (by omega)]
              · have bl : b ≠ l := fun e => by rw [e, hlH] at ho; cases ho
                rw [upd_ne bl, upd_ne bl]
                exact k5 b o hb ho
      · have e : i = ts.length := by omega
        subst e
        rw [List.take_length] at l5
        refine .inl ⟨⟨tv, sqt_mono g5 s1, by omega⟩, ?_⟩
        -- self.whole
        show tOp (rIx K) (tVar 1) (tC (.int 0)) [some (.ref x), some (.ref wa), y, z] H5 _
        refine web0 g5 rfl ?_
        refine ⟨1, (n : Int), rfl, rfl, ⟨by omega, by omega, by decide⟩, ?_⟩
        refine ⟨_, _, rfl, rfl, _, rfl, x, C, dx, _, rfl, x5, hC, h3, by simp, ?_⟩
        have ev : 1 * 2 ^ (n : Int).toNat - 1 = ((full n : Nat) : Int) := by
          have := Nat.two_pow_pos n
          rw [Int.one_mul, Int.toNat_natCast, show (2 : Int) ^ n = ((2 ^ n : Nat) : Int) by simp]
          unfold full
          omega
        show Q .non (upd H5 x (.ins C dx (putF "whole" (.int (1 * 2 ^ (n : Int).toNat - 1)) [("many", .int (n : Int)), ("to", .ref l)])))
        rw [ev]
        refine q _ l (fun b o hb ho => ?_) hlH ?_ ?_
        · rw [upd_ne hb]
          exact k5 b o hb ho
        · rw [upd_ne lx]
          exact l5
        · rw [upd_same]
          rfl
end G

set_option Elab.async false
set_option linter.all false
set_option maxRecDepth 100000
set_option maxHeartbeats 1000000
namespace DC
open PySem PySem.Spec PyProof.Rows L2

/-! ### dicts of ints: comprehensions, d[k] -/
@[simp] def dcD (wg : WG) (wt : WT) (wk wv : WE) (vs : List Nat) (Q : Rs → List Sl → Prop) : List PyData → List (Key × PyData) → List Sl → Prop
  | [], acc, ρ => Q (.nd acc) ρ
  | d :: r, acc, ρ => wg d (wipeS ρ vs) fun ρ2 => wt ρ2 fun b ρ3 =>
    if b = true then wk ρ3 fun y ρ4 => wv ρ4 fun x ρ5 => match y, x.dat with
      | .fz (.int k), some e => hasK (keysP acc) (Sum.inl k) = false ∧ dcD wg wt wk wv vs Q r (acc ++ [(Sum.inl k, e)]) (backS ρ ρ5 vs)
      | _, _ => False
    else dcD wg wt wk wv vs Q r acc (backS ρ ρ3 vs)
@[simp] def wDc (wi : WI) (wg : WG) (wt : WT) (wk wv : WE) (vs : List Nat) : WE := fun ρ Q => wi ρ fun ds ρ1 => ds.length ≤ 1000000 ∧ dcD wg wt wk wv vs Q ds [] ρ1
theorem ev_dc {K : PySem.W.Frag} {wi : TI} {g : TG} {tt : TT} {tk tv : TE} {vs sl : List Nat} {wI : WI} {wg : WG} {wt : WT} {wk wv : WE} (hi : ∀ ρ Q, wI ρ Q → EvI K wi ρ Q)
    (hg : ∀ d ρ Q, wg d ρ Q → ∀ (O L : List Addr) (σ : L2.St) (H : Hp) (v : V), En K O L H σ ρ → Dp K (less H (O ++ L)) v d → ∀ QV : L2.St → Hp → Prop,
      (∀ σ' ρ', En K O L H σ' ρ' → (∀ j, j ∉ sl → σ'[j]? = σ[j]?) → σ'.length = σ.length → Q ρ' → QV σ' H) → g v σ H QV) (hsl : ∀ j ∈ sl, j ∈ vs)
    (ht : ∀ ρ Q, wt ρ Q → EvT K tt ρ Q) (hk : ∀ ρ Q, wk ρ Q → Ev K tk ρ Q) (he : ∀ ρ Q, wv ρ Q → Ev K tv ρ Q) (ρ : List Sl) (Q : Rs → List Sl → Prop) (h : wDc wI wg wt wk wv vs ρ Q) : Ev K (tDc wi g tt tk tv vs) ρ Q := by
  intro O L σ H I QV q
  refine hi ρ _ h O L σ H I _ fun L1 J H1 ds ρ1 g1 I1 it ⟨hz, h1⟩ => ?_
  intro D hD
  have s1 : Same H1 (upd H1 D (.dK [])) := new_same hD
  have I2 : En K (D :: O) L1 (upd H1 D (.dK [])) σ ρ1 := I1.push s1 hD (by rw [upd_same]; simp)
  have D_O : D ∉ O := fun z => I1.tr D (List.mem_append_left _ z) hD
  refine ⟨fun i m H' => ∃ L' ρ' acc accV, Go L1 H1 L' H' ∧ En K (D :: O) L' H' σ ρ' ∧ H' D = some (.dK accV) ∧ KvAll K (less H' (D :: (O ++ L'))) accV acc ∧ i ≤ ds.length ∧ acc.length ≤ i ∧ dcD wg wt wk wv vs Q (ds.drop i) acc ρ' ∧ m = ds.length - i,
    ⟨ds.length, L1, ρ1, [], [], Go.same s1, I2, upd_same, .nil, Nat.zero_le _, Nat.le_refl _, h1, rfl⟩, ?_⟩
  rintro i m H' ⟨L', ρ', acc, accV, g2, I', hD', hA, hi', hacc, hlc, rfl⟩
  have gG : Same (less H1 (O ++ L1)) (less H' (D :: O ++ L')) := fun b o hb => by
    obtain ⟨b1, b2⟩ := less_some hb
    rw [List.mem_append] at b1
    have b3 : b ∉ L1 := fun z => b1 (.inr z)
    rw [less_out]
    · exact g2.keep b o b2 b3
    · intro z
      rcases List.mem_append.mp z with z | z
      · rcases List.mem_cons.mp z with z | z
        · rw [z, hD] at b2; cases b2
        · exact b1 (.inl z)
      · rcases g2.gr b z with z | z
        · exact b3 z
        · rw [b2] at z; cases z
  have gH : Same (less H1 (O ++ L1)) H' := fun b o hb => (less_some (gG b o hb)).2
  by_cases hlt : i < ds.length
  · obtain ⟨d, hd⟩ : ∃ d, ds[i]? = some d := ⟨ds[i], by simp [hlt]⟩
    obtain ⟨go, yld⟩ := (it H' gH i).1 d hd
    have hdr : ds.drop i = d :: ds.drop (i + 1) := by
      rw [List.drop_eq_getElem_cons hlt]
      rw [List.getElem?_eq_getElem hlt] at hd
      cases hd
      rfl
    rw [hdr] at hlc
    refine .inr ⟨go, fun H'' => ∃ L'' ρ'' acc' accV', Go L1 H1 L'' H'' ∧ En K (D :: O) L'' H'' σ ρ'' ∧ H'' D = some (.dK accV') ∧ KvAll K (less H'' (D :: (O ++ L''))) accV' acc' ∧ acc'.length ≤ i + 1 ∧ dcD wg wt wk wv vs Q (ds.drop (i + 1)) acc' ρ'', ?_, ?_⟩
    · rintro H'' ⟨L'', ρ'', acc', accV', k1, k2, k3, k4, k5, k6⟩
      exact ⟨ds.length - (i + 1), by omega, L'', ρ'', acc', accV', k1, k2, k3, k4, hlt, k5, k6, rfl⟩
    · intro x H2 y
      have yk := yld x H2 y
      have sy := yk.same
      have Iy := (I'.grow sy).wipe vs
      have dx : Dp K (less H2 (D :: O ++ L')) x d := yk.dp I'.tr gG
      have hD2 : H2 D = some (.dK accV) := sy _ _ hD'
      unfold dcD at hlc
      refine hg d _ _ hlc (D :: O) L' (wipe σ vs) H2 x Iy dx _ fun σ2 ρ2 J2 e2 l2 q2 => ?_
      have w2 : wipe σ2 vs = wipe σ vs := by
        apply List.ext_getElem?
        intro j
        by_cases hj : j ∈ vs
        · have z : ∀ {τ : L2.St}, τ.length = σ.length → (wipe τ vs)[j]? = if j < σ.length then some none else none := fun {τ} hτ => by
            have : ∀ us : List Nat, j ∈ us → (wipe τ us)[j]? = if j < τ.length then some none else none := fun us => by
              induction us with
              | nil => intro z; cases z
              | cons u us ih =>
                intro hu
                show ((wipe τ us).set u none)[j]? = _
                by_cases huj : u = j
                · subst huj
                  by_cases hl : u < τ.length
                  · rw [List.getElem?_set_self (by rw [wipe_length]; exact hl), if_pos hl]
                  · rw [List.getElem?_eq_none (by rw [List.length_set, wipe_length]; omega), if_neg hl]
                · rw [List.getElem?_set_ne huj]
                  exact ih ((List.mem_cons.mp hu).resolve_left fun e => huj e.symm)
            rw [this vs hj, hτ]
          rw [z (l2.trans (wipe_length σ vs)), z rfl]
        · rw [wipe_out hj, wipe_out hj, e2 j fun z => hj (hsl j z), wipe_out hj]
      refine ⟨w2, ht _ _ q2 (D :: O) L' σ2 H2 J2 _ fun L3 b H3 ρ3 g3 J3 q3 => ?_⟩
      have e2' : ∀ j, j ∉ vs → σ2[j]? = σ[j]? := fun j hj => by rw [e2 j fun z => hj (hsl j z), wipe_out hj]
      have l2' : σ2.length = σ.length := l2.trans (wipe_length σ vs)
      have gy : Go L' H' L' H2 := Go.same sy
      have D_L : D ∉ L' := fun z => I'.dis D z List.mem_cons_self
      have hA2 : KvAll K (less H2 (D :: (O ++ L'))) accV acc := hA.up (less_mono sy)
      cases b with
      | true =>
        rw [if_pos rfl] at q3 ⊢
        refine hk _ _ q3 (D :: O) L3 σ2 H3 J3 _ fun L5 u5 H5 r5 ρ5 g5 R5 q5 => ?_
        refine he _ _ q5 (D :: O) L5 σ2 H5 R5.en _ fun L4 u H4 r4 ρ4 g4 R4 q4 => ?_
        split at q4
        · rename_i k w e4
          obtain ⟨q4a, q4⟩ := q4
          obtain ⟨_, hk5⟩ := R5
          cases hk5
          have g34 := (g3.trans g5).trans g4
          have hD4 : H4 D = some (.dK accV) := g34.keep D _ hD2 D_L
          have J4 : En K (D :: O) L4 H4 σ (backS ρ' ρ4 vs) := En.back (I'.grow sy) g34 R4.en e2' l2'
          have hA4 : KvAll K (less H4 (D :: (O ++ L4))) accV acc := hA2.up (Go.less (O := D :: O) g34)
          have hn : valV accV (Sum.inl k : Key) = none := by
            have := valV_mem (vs := accV) (k := Sum.inl k)
            rw [hA.keys, q4a] at this
            cases z : valV accV (Sum.inl k : Key) with
            | none => rfl
            | some u => rw [z] at this; cases this
          refine ⟨accV, Sum.inl k, rfl, hD4, ?_, ?_⟩
          · rw [hA.len]; exact lt_line (by omega)
          · rw [putK_new u hn]
            refine ⟨L4, _, acc ++ [(Sum.inl k, w)], accV ++ [(Sum.inl k, u)], ?_, J4.updO List.mem_cons_self, upd_same, ?_, ?_, q4⟩
            · have g6 := (g2.trans gy).trans g34
              refine ⟨fun b o hb hn => ?_, g6.gr, fun b hb => ?_⟩
              · rw [upd_ne (ne_of_none hb hD)]; exact g6.keep b o hb hn
              · by_cases e : b = D
                · rw [e, upd_same]; simp
                · rw [upd_ne e]; exact g6.st b hb
            · rw [less_upd List.mem_cons_self]
              exact KvAll.snoc (R4.dp e4) hA4
            · rw [List.length_append]; exact Nat.succ_le_succ hacc
        · exact q4.elim
      | false =>
        rw [if_neg Bool.false_ne_true] at q3 ⊢
        have hD3 : H3 D = some (.dK accV) := g3.keep D _ hD2 D_L
        exact ⟨L3, _, acc, accV, (g2.trans gy).trans g3, En.back (I'.grow sy) g3 J3 e2' l2', hD3, hA2.up (Go.less (O := D :: O) g3), Nat.le_succ_of_le hacc, q3⟩
  · have e : i = ds.length := by omega
    subst e
    rw [List.drop_length] at hlc
    refine .inl ⟨(it H' gH ds.length).2 (Nat.le_refl _), ?_⟩
    exact q L' _ H' (.nd acc) ρ' (g1.trans g2) ⟨D, accV, rfl, g1.free hD, D_O, I', hD', hA⟩ hlc
section
variable {X : Cx}
theorem de_dc {kx vx tg iter : Expr} {ifs : List Expr} {scope : Scope} {own : List (Str × Nat)} {pos : Pos} {wi : TI} {g : TG} {tt : TT} {tk tv : TE} {sl : List Nat} {wI : WI} {wg : WG} {wt : WT} {wk wv : WE} (hc : X.calm = true) (hN : X.N.Nodup) (hi : DI X tg iter wi wI) (ok : BlkOk X.N X.env.scope scope own)
    (hg : ∀ (s : Shared) (H : Hp) (C : Addr) (cl : List (Str × Addr)) (fp : List Addr), DG (X.blk s H scope (compEnvC scope cl C X.env) fp) tg g sl wg) (ht : ∀ (s : Shared) (H : Hp) (C : Addr) (cl : List (Str × Addr)) (fp : List Addr), DTs (X.blk s H scope (compEnvC scope cl C X.env) fp) ifs tt wt)
    (hk : ∀ (s : Shared) (H : Hp) (C : Addr) (cl : List (Str × Addr)) (fp : List Addr), DE (X.blk s H scope (compEnvC scope cl C X.env) fp) kx tk wk)
    (he : ∀ (s : Shared) (H : Hp) (C : Addr) (cl : List (Str × Addr)) (fp : List Addr), DE (X.blk s H scope (compEnvC scope cl C X.env) fp) vx tv wv) (hsl : ∀ j ∈ sl, j ∈ own.map (·.2) := by decide) (hs : ∀ x, foldedSetIterable iter X.env x = pure x := by intro _; rfl) :
    DE X (.DictComp kx vx [⟨tg, iter, ifs, 0⟩] scope pos) (tDc wi g tt tk tv (own.map (·.2))) (wDc wI wg wt wk wv (own.map (·.2))) :=
  ⟨pe_dc hc hN hi.pi ok (fun s H C cl fp => (hg s H C cl fp).pg) (fun s H C cl fp => (ht s H C cl fp).pts) (fun s H C cl fp => (hk s H C cl fp).pe) (fun s H C cl fp => (he s H C cl fp).pe) hs,
    ev_dc hi.ev (hg X.s_0 (fun _ => none) 0 [] []).ev hsl (ht X.s_0 (fun _ => none) 0 [] []).ev (hk X.s_0 (fun _ => none) 0 [] []).ev (he X.s_0 (fun _ => none) 0 [] []).ev⟩
theorem de_dcF {kx vx tg iter : Expr} {ifs : List Expr} {scope : Scope} {own : List (Str × Nat)} {pos : Pos} {wi : TI} {g : BlkI → TG} {tt : BlkI → TT} {tk tv : BlkI → TE} {sl : List Nat} {wI : WI} {wg : WG} {wt : WT} {wk wv : WE} (hc : X.calm = true) (hN : X.N.Nodup) (hi : DI X tg iter wi wI) (ok : BlkOk X.N X.env.scope scope own)
    (hg : ∀ i : BlkI, DG (blkAt X scope i) tg (g i) sl wg) (ht : ∀ i : BlkI, DTs (blkAt X scope i) ifs (tt i) wt) (hk : ∀ i : BlkI, DE (blkAt X scope i) kx (tk i) wk)
    (he : ∀ i : BlkI, DE (blkAt X scope i) vx (tv i) wv) (hsl : ∀ j ∈ sl, j ∈ own.map (·.2) := by decide) (hs : ∀ x, foldedSetIterable iter X.env x = pure x := by intro _; rfl) :
    DE X (.DictComp kx vx [⟨tg, iter, ifs, 0⟩] scope pos) (tDc wi (fun v σ H Q => ∀ i, g i v σ H Q) (fun σ H Q => ∀ i, tt i σ H Q) (fun σ H Q => ∀ i, tk i σ H Q) (fun σ H Q => ∀ i, tv i σ H Q) (own.map (·.2))) (wDc wI wg wt wk wv (own.map (·.2))) :=
  de_dc hc hN hi ok (fun s H C cl fp => ⟨⟨fun pins s1 σ H1 v u Q I r z => (hg (s, H, C, cl, fp)).pg.run pins s1 σ H1 v u Q I r (z _)⟩, fun d ρ Q w O L σ H1 v I hd QV q i => (hg i).ev d ρ Q w O L σ H1 v I hd QV q⟩)
    (fun s H C cl fp => ⟨⟨fun pins s1 σ H1 Q I z => (ht (s, H, C, cl, fp)).pts.run pins s1 σ H1 Q I (z _)⟩, fun ρ Q w O L σ H1 I QV q i => (ht i).ev ρ Q w O L σ H1 I QV q⟩)
    (fun s H C cl fp => ⟨⟨fun pins s1 σ H1 Q I z => (hk (s, H, C, cl, fp)).pe.run pins s1 σ H1 Q I (z _)⟩, fun ρ Q w O L σ H1 I QV q i => (hk i).ev ρ Q w O L σ H1 I QV q⟩)
    (fun s H C cl fp => ⟨⟨fun pins s1 σ H1 Q I z => (he (s, H, C, cl, fp)).pe.run pins s1 σ H1 Q I (z _)⟩, fun ρ Q w O L σ H1 I QV q i => (he i).ev ρ Q w O L σ H1 I QV q⟩) hsl hs
/-- d[k], the dict a name's own -/
def lookK (kvs : List (Key × PyData)) (k : Int) : Option PyData := (kvs.find? fun p => decide (p.1 = Sum.inl k)).map (·.2)
theorem lookK_ok {K : PySem.W.Frag} {G : Hp} {k : Int} {d : PyData} : ∀ {vs : List (Key × V)} {kvs : List (Key × PyData)}, KvAll K G vs kvs → lookK kvs k = some d → ∃ v, valV vs (Sum.inl k : Key) = some v ∧ Dp K G v d
  | _, _, .nil, e => by cases e
  | _, _, .cons (k := k') (v := v') (d := d') (vs := vs) (ds := ds) a b, e => by
    unfold lookK at e
    rw [List.find?_cons] at e
    by_cases hk : k' = Sum.inl k
    · simp [hk] at e
      subst e
      exact ⟨v', by simp [valV, hk], a⟩
    · simp [hk] at e
      obtain ⟨v, h1, h2⟩ := lookK_ok (k := k) (d := d) b (by unfold lookK; simpa using e)
      exact ⟨v, by simp [valV, hk] at h1 ⊢; exact h1, h2⟩
@[simp] def wDGet (j : Nat) (we : WE) : WE := fun ρ Q => (∃ kvs, ρ[j]? = some (.od kvs)) ∧ we ρ fun r ρ1 => match r, ρ1[j]? with
  | .fz (.int k), some (.od kvs) => ∃ d, lookK kvs k = some d ∧ Q (.fz d) ρ1
  | _, _ => False
theorem de_dget (j : Nat) {x : Str} {p2 pos : Pos} {e : Expr} {te : TE} {we : WE} (hu : X.A.units + 1 < cLine) (he : DE X e te we) (hs : NoSl e) (hN : X.N[j]? = some x := by rfl) (hv : Vis X.env.scope x := by first | exact Or.inl rfl | exact Or.inr (Or.inl rfl) | exact Or.inr (Or.inr rfl)) (hd : (x == ("__debug__" : Str)) = false := by decide)
    (hcd : (x == ("__classdict__" : Str)) = false := by decide) : DE X (.Subscript (.Name x p2) e pos) (tDGet (tVar j) te) (wDGet j we) := by
  refine ⟨pe_dget hu (pe_var hN hv hd hcd) he.pe hs, fun ρ Q ⟨⟨kvs0, q0⟩, h⟩ O L σ H I QV q => ?_⟩
  obtain ⟨a0, vs0, w1, w2, w3, w4⟩ := I.at_ j _ q0
  refine ⟨_, join_some w1, he.ev ρ _ h O L σ H I _ fun L1 v H1 r1 ρ1 g1 R1 h1 => ?_⟩
  split at h1
  · rename_i k kvs e1
    obtain ⟨d, hl, h1⟩ := h1
    obtain ⟨I1, hd1⟩ := R1
    cases hd1
    obtain ⟨a, vs, k1, k2, k3, k4⟩ := I1.at_ j _ e1
    rw [w1] at k1
    cases k1
    obtain ⟨v, hv1, hv2⟩ := lookK_ok k4 hl
    refine ⟨_, v, rfl, ?_, q L1 v H1 _ ρ1 g1 (.f I1 hv2) h1⟩
    rw [← hv1]
    exact DGet.k (k := Sum.inl k) k3
  · exact h1.elim
end
end DC

set_option Elab.async false
set_option linter.all false
set_option maxRecDepth 100000
set_option maxHeartbeats 1000000
namespace DC
open PySem PySem.Spec PyProof.Rows L2

/-! ### attributes as targets; methods without arguments -/
section
variable {X : Cx} {pos : Pos}
def gFld (K : PySem.W.Frag) (to : TE) (f : Str) : TG := fun v σ H Q => to σ H fun x H1 => ∃ a C dx fs, x = .ref a ∧ H1 a = some (.ins C dx fs) ∧ Cls K C ∧ NoAttr K C f ∧ fs.length < 1000 ∧ Q σ (upd H1 a (.ins C dx (putF f v fs)))
theorem pg_fld {o : Expr} {to : TE} {f : Str} (ho : PE X o to) (ha : ∀ v, assign (.Attribute o f pos) X.env v = (do
      let ov ← holding [v] (eval o X.env)
      standAt pos.atName
      holding [v, ov] (setAttr ov f v)
      release [v, ov] []) := by intro _; rfl) : PG X (.Attribute o f pos) (gFld X.K to f) := by
  refine ⟨fun pins s σ H v u Q I r h => ?_⟩
  rw [ha]
  refine wpAny_bind (wpAny_holding (thn (ho.run pins s σ H _ I h) fun ov s1 ⟨x, H1, I1, r1, a, C, dx, fs, ex, ea, c, n, l, q⟩ => ?_))
  subst ex
  obtain rfl : ov = Value.ref a := r1
  refine wpAny_bind (wpAny_standAt (wpAny_bind (wpAny_holding (setattr_ok I1 ea c n l r fun s3 I3 => ?_))))
  exact wpAny_release ⟨σ, _, I3, q⟩
end
section
variable {X : Cx} {k : Nat} {f C : Addr} {fd : FuncData} {ps : List Str} {x m : Str} {p pos apos : Pos} {o : Expr} {to : TE} {wo : WE} {S : SPc} {sp : Sp}
theorem pe_methG0 {pl : Sem Bool} (he : PE X o to) (c : Cls X.K C) (hm : Meth X.K C m f) (F : FnG X.prog X.w X.K X.mg X.base k f fd ps sp) (hgd : X.A.guards = some []) (hr : Room k X.A) (hb : Binds X.K fd ps [])
    (ht : eval (.Call (.Attribute o m apos) [] [] pos) X.env = (do
      let ov ← eval o X.env
      standAt apos.atName
      let (f, first) ← holding [ov] (getMethod ov m pl)
      callWith pos f first (backTo pos (starEach [] X.env)) (backToKw pos (keywordEach [] X.env)))) :
    PE X (.Call (.Attribute o m apos) [] [] pos) (tMeth C m sp [] E0 to tNil) := by
  constructor
  intro pins s σ H Q I h
  apply PySem.W.methodCall_KW (pl := pl) _ ht
  apply thn (he.run pins s σ H _ I h)
  rintro u s1 ⟨x, H1, I1, rx, a, dx, fs, rfl, ea, l, q⟩
  cases rx
  apply getmeth_ok I1 ea c hm l
  exact PySem.W.callWith_K0 (first := [.ref a]) I1.kIn hm.kp (run_gw (us := [.ref a]) (vs := [.ref a]) F hgd hr hb I1 (.cons rfl .nil) q)
theorem c_m0 {pl : Sem Bool} (F : FnG X.prog X.w X.K X.mg X.base k f fd ps (spP X.K S)) (hb : Binds X.K fd ps []) (c : Cls X.K C) (hm : Meth X.K C m f) (hgd : X.A.guards = some []) (hr : Room k X.A) (ho : DE X o to wo)
    (ht : eval (.Call (.Attribute o m apos) [] [] pos) X.env = (do
      let ov ← eval o X.env
      standAt apos.atName
      let (f, first) ← holding [ov] (getMethod ov m pl)
      callWith pos f first (backTo pos (starEach [] X.env)) (backToKw pos (keywordEach [] X.env))) := by rfl) :
    DE X (.Call (.Attribute o m apos) [] [] pos) (tMeth C m (spP X.K S) [] E0 to tNil) (wMeth C m S wo wNil) := by
  refine ⟨pe_methG0 ho.pe c hm F hgd hr hb ht, fun ρ Q h O L σ H I QV q => ?_⟩
  refine ho.ev ρ _ h O L σ H I _ fun L1 v H1 r1 ρ1 g1 R1 h1 => ?_
  cases r1 with
  | ob C' fs =>
    obtain ⟨⟨rfl, hn⟩, h1⟩ := h1
    obtain ⟨I1, ob⟩ := R1
    obtain ⟨p, dx, vs, rfl, hp, hf, hg⟩ := id ob
    refine ⟨p, dx, vs, rfl, less_sub _ _ hp, hg _ hn, ?_⟩
    refine ⟨O ++ L1, .ob C' fs :: [], _, I1.tr, ?_, h1, fun v H' r s1 ok hq => ?_⟩
    · show ArAll X.K _ (V.ref p :: ([] ++ [])) _
      exact .cons ob .nil
    · exact q L1 v H' r ρ1 (g1.trans (Go.same s1)) ((VrOk.rs I1 s1 ok).back fun p z => g1.free z) hq
  | _ => exact h1.elim
end
end DC

set_option Elab.async false
set_option linter.all false
set_option maxRecDepth 100000
set_option maxHeartbeats 1000000
/-! Likeness(web, other): what __init__ does. -/
namespace G
open PySem PySem.Spec PyProof.Rows L2 DC
def likeF (CT : Addr) (n : Nat) (ts : List (Nat × Nat)) (m : Nat) (us : List (Nat × Nat)) : List (Str × PyData) := [("ties", encOb CT (tiesF n ts)), ("goal", encOb CT (tiesF m us))]
def likeV (y z : V) : List (Str × V) := [("ties", y), ("goal", z)]
def wMake_Likeness (C CT : Addr) (wa : WA) : WE := fun ρ Q => wa ρ fun as ρ1 => match as with
  | [.fz d, .fz e] => ∃ n ts m us, d = webD n ts ∧ Ok n ts ∧ e = webD m us ∧ Ok m us ∧ Q (.ob C (likeF CT n ts m us)) ρ1
  | _ => False
theorem ties_flat (n : Nat) (ts : List (Nat × Nat)) : ∀ f kvs, (tiesF n ts).lookup f ≠ some (.dict kvs) := by
  intro f kvs z
  unfold tiesF at z
  simp only [List.lookup] at z
  split at z
  · cases z
  · split at z
    · cases z
    · split at z
      · cases z
      · cases z
def spInitL (K : PySem.W.Frag) (C CT : Addr) : Sp := fun vs H Q _ => ∃ (x dx : Addr) (w0 w1 : V) (n : Nat) (ts : List (Nat × Nat)) (m : Nat) (us : List (Nat × Nat)) (M : List Addr), vs = [.ref x, w0, w1] ∧ H x = some (.ins C dx []) ∧ (∀ a ∈ M, H a ≠ none) ∧ Dp K (less H (x :: M)) w0 (webD n ts) ∧ Ok n ts ∧ Dp K (less H (x :: M)) w1 (webD m us) ∧ Ok m us ∧
  ∀ (H' : Hp) (y z : V), (∀ b o, b ≠ x → H b = some o → H' b = some o) → H' x = some (.ins C dx (likeV y z)) → ObD K (less H' (x :: M)) y CT (tiesF n ts) → ObD K (less H' (x :: M)) z CT (tiesF m us) → Q .non H'
def t_initL (K : PySem.W.Frag) (ta : TA) : TS := tAsg (tTup ta) (gTup K 2 (gCons (gFld K (tVar 0) "ties") (gCons (gFld K (tVar 0) "goal") gNil)))
theorem pure_initL {K : PySem.W.Frag} {C CT : Addr} {ta : TA} (hC : Cls K C) (h1 : NoAttr K C "ties") (h2 : NoAttr K C "goal")
    (hA : ∀ ρ Q, (wCons (wMake_Ties CT (wCons (wVar 1) wNil)) (wCons (wMake_Ties CT (wCons (wVar 2) wNil)) wNil)) ρ Q → EvA K ta ρ Q)
    (vs : List V) (H : Hp) (Q : VK) (E : XK) (h : spInitL K C CT vs H Q E) : t_initL K ta { nx := fun _ H' => Q .non H', rt := Q } (start ["self", "web", "other"] vs) H := by
  obtain ⟨x, dx, w0, w1, n, ts, m, us, M, rfl, hx, hM, hd0, ok0, hd1, ok1, q⟩ := h
  have sx : Same (less H (x :: M)) (less H ((x :: M) ++ [])) := fun b o z => by rw [List.append_nil]; exact z
  have en : En K (x :: M) [] H (start ["self", "web", "other"] [.ref x, w0, w1]) [.un, .fz (webD n ts), .fz (webD m us)] := by
    refine ⟨rfl, fun i s e => ?_, fun i j s t a e1 e2 o1 o2 => ?_, fun a z => ?_, fun a z => by cases z⟩
    · match i, e with
      | 0, e => cases e; exact trivial
      | 1, e => cases e; exact ⟨w0, rfl, hd0.up sx⟩
      | 2, e => cases e; exact ⟨w1, rfl, hd1.up sx⟩
      | i + 3, e => simp at e
    · match i, e1 with
      | 0, e1 => cases e1; exact o1.elim
      | 1, e1 => cases e1; exact o1.elim
      | 2, e1 => cases e1; exact o1.elim
      | i + 3, e1 => simp at e1
    · rw [List.append_nil] at z
      rcases List.mem_cons.mp z with z | z
      · rw [z, hx]
        simp
      · exact hM a z
  refine hA _ (fun ss ρ => ss = [.ob CT (tiesF n ts), .ob CT (tiesF m us)]) ?_ (x :: M) [] _ H en _ fun L' vs H1 ss ρ' g1 I1 a1 e1 => ?_
  · simp [wMake_Ties]
    exact ⟨n, ts, rfl, ok0, m, us, rfl, ok1, rfl, rfl⟩
  · subst e1
    cases a1 with
    | cons b1 a1 =>
      cases a1 with
      | cons b2 a1 =>
        cases a1
        rename_i y z
        have o1 : ObD K (less H1 ((x :: M) ++ L')) y CT (tiesF n ts) := ObAt.flat b1 (ties_flat n ts)
        have o2 : ObD K (less H1 ((x :: M) ++ L')) z CT (tiesF m us) := ObAt.flat b2 (ties_flat m us)
        have x1 : H1 x = some (.ins C dx []) := g1.keep x _ hx (by simp)
        refine ⟨show 2 ≤ sizeLine by decide, fun p hp => ?_⟩
        have px : p ≠ x := fun e => by rw [e, x1] at hp; cases hp
        refine ⟨p, [y, z], rfl, .inl (.inl upd_same), rfl, y, [z], rfl, ?_⟩
        have x2 : (upd H1 p (.tup [y, z])) x = some (.ins C dx []) := by rw [upd_ne (Ne.symm px)]; exact x1
        refine ⟨.ref x, rfl, x, C, dx, [], rfl, x2, hC, h1, by simp, z, [], rfl, ?_⟩
        refine ⟨.ref x, rfl, x, C, dx, _, rfl, upd_same, hC, h2, show 1 < 1000 by decide, rfl, ?_⟩
        have sm : ∀ b o, b ≠ x → H1 b = some o → (upd (upd (upd H1 p (.tup [y, z])) x (.ins C dx (putF "ties" y []))) x (.ins C dx (putF "goal" z (putF "ties" y [])))) b = some o := fun b o hb ho => by
          have bp : b ≠ p := fun e => by rw [e, hp] at ho; cases ho
          rw [upd_ne hb, upd_ne hb, upd_ne bp]
          exact ho
        have sl : Same (less H1 ((x :: M) ++ L')) (less (upd (upd (upd H1 p (.tup [y, z])) x (.ins C dx (putF "ties" y []))) x (.ins C dx (putF "goal" z (putF "ties" y [])))) (x :: M)) := fun b o w => by
          obtain ⟨w1, w2⟩ := less_some w
          have bx : b ≠ x := fun e => w1 (by simp [e])
          rw [less_out fun w => w1 (List.mem_append_left _ w)]
          exact sm b o bx w2
        refine q _ y z (fun b o hb ho => sm b o hb (g1.keep b o ho (by simp))) ?_ (o1.up sl) (o2.up sl)
        rw [upd_same]
        rfl
theorem dp_masks {K : PySem.W.Frag} {G : Hp} (n : Nat) (ts : List (Nat × Nat)) : DpAll K G (masks n ts) ((List.range n).map fun v => PyData.int (nb ts v : Int)) := by
  unfold masks
  induction List.range n with
  | nil => exact .nil
  | cons a r ih => exact .cons (.int _) ih
theorem ev_mkTies {K : PySem.W.Frag} {C : Addr} {ta : TA} {wa : WA} (ha : ∀ ρ Q, wa ρ Q → EvA K ta ρ Q) (ρ : List Sl) (Q : Rs → List Sl → Prop) (h : wMake_Ties C wa ρ Q) : Ev K (tMake C (spInit K C) [] E0 ta) ρ Q := by
  intro O L σ H I QV q
  refine ha ρ _ h O L σ H I _ fun L1 vs H1 ss ρ1 g1 I1 a1 h1 => ?_
  intro x dx hx hdx ne
  split at h1
  · rename_i d
    obtain ⟨n, ts, rfl, ok, h1⟩ := h1
    cases a1 with
    | cons v0 vr =>
      cases vr
      have gx : less H1 (O ++ L1) x = none := by
        cases z : less H1 (O ++ L1) x with
        | none => rfl
        | some o => rw [(less_some z).2] at hx; cases hx
      have gd : less H1 (O ++ L1) dx = none := by
        cases z : less H1 (O ++ L1) dx with
        | none => rfl
        | some o => rw [(less_some z).2] at hdx; cases hdx
      have s2 : Same H1 (upd (upd H1 dx (.own x)) x (.ins C dx [])) := fun b o z => by
        rw [upd_ne (ne_of_none z hx), upd_ne (ne_of_none z hdx)]
        exact z
      refine ⟨x, dx, _, n, ts, less H1 (O ++ L1), rfl, upd_same, fun b o z => s2 b o (less_sub b o z), gx, v0, ok, fun H' l keep hl ml xl => ⟨rfl, ?_⟩⟩
      have s3 : Same H1 H' := fun b o z => keep b o (ne_of_none z hx) (s2 b o z)
      have lx : l ≠ x := fun z => by rw [z, upd_same] at hl; cases hl
      have hl1 : H1 l = none := by
        cases z : H1 l with
        | none => rfl
        | some o => rw [s2 l o z] at hl; cases hl
      have nx : x ∉ O ++ L1 := fun z => I1.tr x z hx
      have nl : l ∉ O ++ L1 := fun z => I1.tr l z hl1
      refine q L1 _ H' (.ob C (tiesF n ts)) ρ1 (g1.trans (Go.same s3)) ⟨I1.grow s3, ObD.at_ ⟨x, dx, tiesV n l, rfl, by rw [less_out nx]; exact xl, fun f d z => ?_, fun f z => ?_⟩⟩ h1
      · have ml' : less H' (O ++ L1) l = some (.lst (masks n ts)) := by rw [less_out nl]; exact ml
        unfold tiesF at z
        unfold tiesV
        simp only [List.lookup] at z ⊢
        split at z
        · cases z
          exact ⟨_, rfl, .int _⟩
        · split at z
          · cases z
            exact ⟨_, rfl, .lst (.of ml') (dp_masks n ts)⟩
          · split at z
            · cases z
              exact ⟨_, rfl, .int _⟩
            · cases z
      · unfold tiesF at z
        unfold tiesV
        simp only [List.lookup] at z ⊢
        split at z
        · cases z
        · split at z
          · cases z
          · split at z
            · cases z
            · rfl
  · exact h1.elim
theorem evA_nil {K : PySem.W.Frag} (ρ : List Sl) (Q : List Sl → List Sl → Prop) (h : wNil ρ Q) : EvA K tNil ρ Q := fun O L σ H I QV q => q L [] H [] ρ Go.refl I .nil h
theorem evA_cons {K : PySem.W.Frag} {te : TE} {ta : TA} {we : WE} {wa : WA} (he : ∀ ρ Q, we ρ Q → Ev K te ρ Q) (ha : ∀ ρ Q, wa ρ Q → EvA K ta ρ Q) (ρ : List Sl) (Q : List Sl → List Sl → Prop) (h : wCons we wa ρ Q) : EvA K (tCons te ta) ρ Q := by
  intro O L σ H I QV q
  refine he ρ _ h O L σ H I _ fun L1 v H1 r1 ρ1 g1 R1 h1 => ?_
  cases e1 : r1.arg with
  | none => simp only [e1] at h1
  | some s =>
    simp only [e1] at h1
    exact ha ρ1 _ h1 O L1 σ H1 R1.en _ fun L2 vs H2 ss ρ2 g2 I2 a2 h2 => q L2 (v :: vs) H2 (s :: ss) ρ2 (g1.trans g2) I2 (.cons ((R1.ar e1).up g2.less) a2) h2
theorem ev_mkLike {K : PySem.W.Frag} {C CT : Addr} {ta : TA} {wa : WA} (ha : ∀ ρ Q, wa ρ Q → EvA K ta ρ Q) (ρ : List Sl) (Q : Rs → List Sl → Prop) (h : wMake_Likeness C CT wa ρ Q) : Ev K (tMake C (spInitL K C CT) [] E0 ta) ρ Q := by
  intro O L σ H I QV q
  refine ha ρ _ h O L σ H I _ fun L1 vs H1 ss ρ1 g1 I1 a1 h1 => ?_
  intro x dx hx hdx ne
  split at h1
  · rename_i d e
    obtain ⟨n, ts, m, us, rfl, ok, rfl, ok1, h1⟩ := h1
    cases a1 with
    | cons v0 vr =>
    cases vr with
    | cons v1 vr =>
      cases vr
      have s2 : Same H1 (upd (upd H1 dx (.own x)) x (.ins C dx [])) := fun b o z => by
        rw [upd_ne (ne_of_none z hx), upd_ne (ne_of_none z hdx)]
        exact z
      have sm : Same (less H1 (O ++ L1)) (less (upd (upd H1 dx (.own x)) x (.ins C dx [])) (x :: (O ++ L1))) := fun b o z => by
        obtain ⟨z1, z2⟩ := less_some z
        rw [less_out fun w => (List.mem_cons.mp w).elim (fun e => by rw [e, hx] at z2; cases z2) z1]
        exact s2 b o z2
      refine ⟨x, dx, _, _, n, ts, m, us, O ++ L1, rfl, upd_same, fun a ha => ?_, Dp.up v0 sm, ok, Dp.up v1 sm, ok1, fun H' y z keep xl o1 o2 => ⟨rfl, ?_⟩⟩
      · cases z : H1 a with
        | none => exact absurd z (I1.tr a ha)
        | some o => rw [s2 a o z]; simp
      have s3 : Same H1 H' := fun b o z => keep b o (ne_of_none z hx) (s2 b o z)
      have nx : x ∉ O ++ L1 := fun z => I1.tr x z hx
      have an : Same (less H' (x :: (O ++ L1))) (less H' (O ++ L1)) := less_anti fun a z => List.mem_cons_of_mem _ z
      refine q L1 _ H' (.ob C (likeF CT n ts m us)) ρ1 (g1.trans (Go.same s3)) ⟨I1.grow s3, x, dx, likeV y z, rfl, by rw [less_out nx]; exact xl, fun f d w => ?_, fun f w => ?_⟩ h1
      · unfold likeF at w
        unfold likeV
        simp only [List.lookup] at w ⊢
        split at w
        · cases w
          exact ⟨_, rfl, .inr ⟨_, _, rfl, o1.up an⟩⟩
        · split at w
          · cases w
            exact ⟨_, rfl, .inr ⟨_, _, rfl, o2.up an⟩⟩
          · cases w
      · unfold likeF at w
        unfold likeV
        simp only [List.lookup] at w ⊢
        split at w
        · cases w
        · split at w
          · cases w
          · rfl
  · exact h1.elim
end G

set_option Elab.async false
set_option linter.all false
set_option maxRecDepth 100000
set_option maxHeartbeats 1000000
namespace K87
open PySem PySem.Spec PyProof.Rows L2 DC G
/-- unlike things, so many -/
def Pre (n k : Nat) (r : List Nat) : Prop := r.length = k ∧ r.Nodup ∧ ∀ x ∈ r, x < n
def col (ts : List (Nat × Nat)) (r : List Nat) (t : Nat) : List Nat := r.map fun o => if tied ts t o = true then 1 else 0
def bitsR (ts : List (Nat × Nat)) (r : List Nat) : List Nat := (List.range r.length).flatMap fun k => col ts (r.take k) (r.getD k 0)
def Best (n k : Nat) (ts : List (Nat × Nat)) (r : List Nat) : Prop := Pre n k r ∧ ∀ r', Pre n k r' → bitsR ts r ≤ bitsR ts r'
structure IsRen (n : Nat) (ord : List Nat) (ts us : List (Nat × Nat)) : Prop where
  ok : Ok n us
  eq : ∀ i j, i < n → j < n → tied us i j = tied ts (ord.getD i 0) (ord.getD j 0)
def First (n : Nat) (ts us : List (Nat × Nat)) : Prop := ∃ ord, Best n n ts ord ∧ IsRen n ord ts us
def deg (ts : List (Nat × Nat)) (v : Nat) : Nat := (bits (nb ts v)).length
def fitB (ts us : List (Nat × Nat)) (r : List Nat) (t : Nat) : Bool := decide (t ∉ r) && decide (deg ts t = deg us r.length) && (List.range r.length).all fun i => tied ts (r.getD i 0) t == tied us i r.length
def optD : Option (List Nat) → PyData
  | some l => .tuple (natsD l)
  | none => .none
def FirstIso (n : Nat) (ts us : List (Nat × Nat)) : Option (List Nat) → Prop
  | some l => l.Perm (List.range n) ∧ IsRen n l ts us
  | none => ¬ ∃ l : List Nat, l.Perm (List.range n) ∧ IsRen n l ts us
/-- an ascending lot that is watched from -/
def IsLot (n : Nat) (l : List Nat) : Prop := l.Pairwise (· < ·) ∧ ∀ x ∈ l, x < n
def Watches (n : Nat) (ts : List (Nat × Nat)) (l : List Nat) : Prop := ∀ v, v < n → v ∈ l ∨ ∃ u ∈ l, tied ts v u = true
def keyLe (a b : List Nat) : Prop := a.length < b.length ∨ (a.length = b.length ∧ a ≤ b)
def keyLt (a b : List Nat) : Prop := a.length < b.length ∨ (a.length = b.length ∧ a < b)
def Watch (n : Nat) (ts : List (Nat × Nat)) (l : List Nat) : Prop := IsLot n l ∧ Watches n ts l ∧ ∀ l', IsLot n l' → Watches n ts l' → keyLe l l'
def rowT (l : List Nat) : PyData := .tuple (natsD l)

def S_is_order_of : SPc := fun as Q => match as with
  | [.fz d, .fz (.int m)] => ∃ (n : Nat) (ord : List Nat), m = n ∧ d = rowT ord ∧ ord.Perm (List.range n) ∧ n ≤ 10 ∧ Q (.fz (.bool true))
  | _ => False
def S_need_order : SPc := fun as Q => match as with
  | [.fz (.int m), .fz d] => ∃ (n : Nat) (ord : List Nat), m = n ∧ d = rowT ord ∧ ord.Perm (List.range n) ∧ n ≤ 10 ∧ Q (.fz .none)
  | _ => False
def S_renamed_web : SPc := fun as Q => match as with
  | [.fz d, .fz e] => ∃ (n : Nat) (ts : List (Nat × Nat)) (ord : List Nat), d = webD n ts ∧ Ok n ts ∧ e = rowT ord ∧ ord.Perm (List.range n) ∧ ∀ us, IsRen n ord ts us → Q (.fz (webD n us))
  | _ => False
def S_renamed : SPc := fun as Q => match as with
  | [.fz d, .fz e] => ∃ (n : Nat) (ts : List (Nat × Nat)) (ord : List Nat), d = webD n ts ∧ Ok n ts ∧ e = rowT ord ∧ ord.Perm (List.range n) ∧ ∀ us, IsRen n ord ts us → Q (.fz (webD n us))
  | _ => False
def S_need_small : SPc := fun as Q => match as with
  | [.fz d] => ∃ (n : Nat) (ts : List (Nat × Nat)), d = webD n ts ∧ Ok n ts ∧ n ≤ 7 ∧ Q (.fz .none)
  | _ => False
def S_first_form_of (C : Addr) : SPc := fun as Q => match as with
  | [.fz d] => ∃ (n : Nat) (ts : List (Nat × Nat)), d = webD n ts ∧ Ok n ts ∧ n ≤ 7 ∧ ∀ ord, Best n n ts ord → Q (.fz (rowT ord))
  | _ => False
def S_first_form (C : Addr) : SPc := fun as Q => match as with
  | [.fz d] => ∃ (n : Nat) (ts : List (Nat × Nat)), d = webD n ts ∧ Ok n ts ∧ n ≤ 7 ∧ ∀ us, First n ts us → Q (.fz (webD n us))
  | _ => False
def S_things_tied (C : Addr) : SPc := fun as Q => match as with
  | [.ob C' fs, .fz (.int k)] => C' = C ∧ ∃ (n : Nat) (ts : List (Nat × Nat)) (v : Nat), fs = tiesF n ts ∧ Ok n ts ∧ k = v ∧ v < n ∧ Q (.fz (rowT (bits (nb ts v))))
  | _ => False
def S_Likeness_fits (C CT : Addr) : SPc := fun as Q => match as with
  | [.ob C' fs, .fz d, .fz (.int k)] => C' = C ∧ ∃ (n : Nat) (ts us : List (Nat × Nat)) (r : List Nat) (t : Nat), fs = likeF CT n ts n us ∧ Ok n ts ∧ Ok n us ∧ d = rowT r ∧ (∀ x ∈ r, x < n) ∧ r.length < n ∧ k = t ∧ t < n ∧ Q (.fz (.bool (fitB ts us r t)))
  | _ => False
def S_Likeness_first (C CT : Addr) : SPc := fun as Q => match as with
  | [.ob C' fs] => C' = C ∧ ∃ (n : Nat) (ts us : List (Nat × Nat)), fs = likeF CT n ts n us ∧ Ok n ts ∧ Ok n us ∧ n ≤ 7 ∧ ∀ o, FirstIso n ts us o → Q (.fz (optD o))
  | _ => False
def S_first_likeness (C CT : Addr) : SPc := fun as Q => match as with
  | [.fz d, .fz e] => ∃ (n : Nat) (ts us : List (Nat × Nat)), d = webD n ts ∧ e = webD n us ∧ Ok n ts ∧ Ok n us ∧ n ≤ 7 ∧ ∀ o, FirstIso n ts us o → Q (.fz (optD o))
  | _ => False
def S_alike_webs (C CT : Addr) : SPc := fun as Q => match as with
  | [.fz d, .fz e] => ∃ (n : Nat) (ts us : List (Nat × Nat)), d = webD n ts ∧ e = webD n us ∧ Ok n ts ∧ Ok n us ∧ n ≤ 7 ∧ ∀ o, FirstIso n ts us o → Q (.fz (optD o))
  | _ => False
def S_watch_lots (C : Addr) : SPc := fun as Q => match as with
  | [.fz d] => ∃ (n : Nat) (ts : List (Nat × Nat)), d = webD n ts ∧ Ok n ts ∧ ∀ l, Watch n ts l → Q (.fz (rowT l))
  | _ => False
def S_fewest_watch (C : Addr) : SPc := fun as Q => match as with
  | [.fz d] => ∃ (n : Nat) (ts : List (Nat × Nat)), d = webD n ts ∧ Ok n ts ∧ ∀ l, Watch n ts l → Q (.fz (rowT l))
  | _ => False
def S__law_all : SPc := fun as Q => match as with
  | [.fz d] => ∃ (n : Nat) (ts : List (Nat × Nat)), d = webD n ts ∧ n ≤ 10 ∧ Q (.nl (natsD (List.range n)))
  | _ => False
def S__law_lots : SPc := fun as Q => match as with
  | [.fz d] => ∃ n : Nat, d = .list (natsD (List.range n)) ∧ n ≤ 10 ∧ ∀ ls : List (List Nat), ls.Pairwise keyLt → (∀ l, l ∈ ls ↔ IsLot n l) → ls.length ≤ 1024 → Q (.nl (ls.map rowT))
  | _ => False
def S__law_first : SPc := fun as Q => match as with
  | [.fz d] => ∃ (n : Nat) (ts : List (Nat × Nat)), d = webD n ts ∧ Ok n ts ∧ n ≤ 7 ∧ ∀ us, First n ts us → Q (.fz (webD n us))
  | _ => False
def S__law_right (C CT : Addr) : SFc := fun fs as Q => match as with
  | [.fz d] => ∃ (B n : Nat) (ts : List (Nat × Nat)), Fd B fs ∧ B ≤ 700000000 ∧ d = webD n ts ∧ Ok n ts ∧ n ≤ 7 ∧ ∀ fs', Fd (B + 20) fs' → Q (.bool true) fs'
  | _ => False
def S__law_watch_right (C : Addr) : SPc := fun as Q => match as with
  | [.fz d] => ∃ (n : Nat) (ts : List (Nat × Nat)), d = webD n ts ∧ Ok n ts ∧ Q (.fz (.bool true))
  | _ => False
def S_law (C CT : Addr) : SPc := fun as Q => match as with
  | [.fz (.list ds)] => ∃ ns : List Int, ds = ns.map .int ∧ ns.length ≤ 63 ∧ Q (.fz (.bool true))
  | _ => False
end K87

set_option Elab.async false
set_option linter.all false
set_option maxRecDepth 100000
set_option maxHeartbeats 1000000

namespace K87
open PySem PySem.Spec PyProof.Rows L2 DC G
/-! Printed by gen.py from the text: what each def asks, as a reading on data. -/
/-! renamed_web -/
abbrev N_renamed_web : List Str := ["web", "order", "names", "at", "thing", "ties", "one", "other"]
def w_renamed_web : WS := wSeq (wSet 2 (wDc (wEnumX (wCons (wVar 1) (wNil))) (gT 2 (gCons' (gN 3) (gCons' (gN 4) (gNil')))) (wYes) (wVar 4) (wVar 3) [3, 4]))
  (wSeq (wZ 5 (wSet 5 (wLc (wAny (wOp rdIx (wVar 0) (wC (.int 1)))) (gT 2 (gCons' (gN 6) (gCons' (gN 7) (gNil')))) (wYes) (wCB rdTuple (wCons (wCB rdSorted (wCons (wLst (wCons (wDGet 2 (wVar 6)) (wCons (wDGet 2 (wVar 7)) (wNil)))) (wNil))) (wNil))) [6, 7])))
  (wRet (wTup (wCons (wOp rdIx (wVar 0) (wC (.int 0))) (wCons (wCB rdTuple (wCons (wCB rdSorted (wCons (wVar 5) (wNil))) (wNil))) (wNil))))))
theorem hl_renamed_web : ∀ as Q, (S_renamed_web) as Q → as.length = 2 := by
  intro as Q h
  unfold S_renamed_web at h
  split at h <;> first | rfl | exact h.elim
abbrev vS_renamed_web : Prop := ∀ as Q, (S_renamed_web) as Q → w_renamed_web ⟨fun _ => Q (.fz .none), fun r _ => Q r, fun _ => False, fun _ => False⟩ (entry N_renamed_web as)
/-! Ties.are_tied -/
abbrev N_Ties_are_tied : List Str := ["self", "one", "other"]
def w_Ties_are_tied (C_Ties : Addr) : WS := wRet (wOp (rdEq false) (wOp rdAnd (wOp rdShr (wOp rdIx (wFld C_Ties "to" (wVar 0)) (wVar 1)) (wVar 2)) (wC (.int 1))) (wC (.int 1)))
theorem hl_Ties_are_tied (C_Ties : Addr) : ∀ as Q, (S_Ties_are_tied C_Ties) as Q → as.length = 3 := by
  intro as Q h
  unfold S_Ties_are_tied at h
  split at h <;> first | rfl | exact h.elim
abbrev vS_Ties_are_tied (C_Ties : Addr) : Prop := ∀ as Q, (S_Ties_are_tied C_Ties) as Q → w_Ties_are_tied C_Ties ⟨fun _ => Q (.fz .none), fun r _ => Q r, fun _ => False, fun _ => False⟩ (entry N_Ties_are_tied as)
/-! first_form_of -/
abbrev N_first_form_of : List Str := ["web", "ties", "rows", "place", "later", "told", "row", "thing", "near", "one", "least"]
def lp1_first_form_of (C_Ties : Addr) : WS := wFor (wRange1 (wCons (wOp rdIx (wVar 0) (wC (.int 0))) (wNil))) (gN 7) (wIfS (wTest (wOp (rdIn true) (wVar 7) (wVar 6))) (wSeq (wSet 8 (wCB rdTuple (wCons (wLc (wAny (wVar 6)) (gN 9) (wYes) (wCB rdInt (wCons (wMeth C_Ties "are_tied" ((S_Ties_are_tied C_Ties)) (wVar 1) (wCons (wVar 7) (wCons (wVar 9) (wNil)))) (wNil))) [9]) (wNil))))
  (wDrop (wAppend 4 (wTup (wCons (wOp rdAdd (wVar 5) (wVar 8)) (wCons (wOp rdAdd (wVar 6) (wTup (wCons (wVar 7) (wNil)))) (wNil))))))) (wNext))
def lp2_first_form_of (C_Ties : Addr) : WS := wFor (wAny (wVar 2)) (gT 2 (gCons' (gN 5) (gCons' (gN 6) (gNil')))) ((lp1_first_form_of C_Ties))
def lp3_first_form_of (C_Ties : Addr) : WS := wFor (wRange1 (wCons (wOp rdIx (wVar 0) (wC (.int 0))) (wNil))) (gN 3) (wSeq (wSet 4 (wLst (wNil)))
  (wSeq ((lp2_first_form_of C_Ties))
  (wSeq (wSet 10 (wCB (rdBest PySem.W.minD) (wCons (wLc (wAny (wVar 4)) (gT 2 (gCons' (gN 5) (gCons' (gN 6) (gNil')))) (wYes) (wVar 5) [5, 6]) (wNil))))
  (wZ 2 (wSet 2 (wLc (wAny (wVar 4)) (gT 2 (gCons' (gN 5) (gCons' (gN 6) (gNil')))) (wTest (wOp (rdEq false) (wVar 5) (wVar 10))) (wTup (wCons (wVar 5) (wCons (wVar 6) (wNil)))) [5, 6]))))))
def tl3_first_form_of (C_Ties : Addr) : WS := wRet (wOp rdIx (wOp rdIx (wVar 2) (wC (.int 0))) (wC (.int 1)))
def tl2_first_form_of (C_Ties : Addr) : WS := wSeq ((lp3_first_form_of C_Ties))
  (tl3_first_form_of C_Ties)
def tl1_first_form_of (C_Ties : Addr) : WS := wSeq (wZ 2 (wSet 2 (wLst (wCons (wTup (wCons (wTup (wNil)) (wCons (wTup (wNil)) (wNil)))) (wNil)))))
  (tl2_first_form_of C_Ties)
def w_first_form_of (C_Ties : Addr) : WS := wSeq (wSet 1 (wMake_Ties C_Ties (wCons (wVar 0) (wNil))))
  (tl1_first_form_of C_Ties)
theorem hl_first_form_of (C_Ties : Addr) : ∀ as Q, (S_first_form_of C_Ties) as Q → as.length = 1 := by
  intro as Q h
  unfold S_first_form_of at h
  split at h <;> first | rfl | exact h.elim
abbrev vS_first_form_of (C_Ties : Addr) : Prop := ∀ as Q, (S_first_form_of C_Ties) as Q → w_first_form_of C_Ties ⟨fun _ => Q (.fz .none), fun r _ => Q r, fun _ => False, fun _ => False⟩ (entry N_first_form_of as)
/-! need_small -/
abbrev N_need_small : List Str := ["web"]
def w_need_small : WS := wSeq (wDrop (wCallP S_need_web (wCons (wVar 0) (wNil))))
  (wIfS (wTest (wOp rdGt (wOp rdIx (wVar 0) (wC (.int 0))) (wC (.int 7)))) (wNever) (wNext))
theorem hl_need_small : ∀ as Q, (S_need_small) as Q → as.length = 1 := by
  intro as Q h
  unfold S_need_small at h
  split at h <;> first | rfl | exact h.elim
abbrev vS_need_small : Prop := ∀ as Q, (S_need_small) as Q → w_need_small ⟨fun _ => Q (.fz .none), fun r _ => Q r, fun _ => False, fun _ => False⟩ (entry N_need_small as)
/-! first_form -/
abbrev N_first_form : List Str := ["web"]
def w_first_form (C_Ties : Addr) : WS := wSeq (wDrop (wCallP S_need_small (wCons (wVar 0) (wNil))))
  (wRet (wCallP S_renamed_web (wCons (wVar 0) (wCons (wCallP (S_first_form_of C_Ties) (wCons (wVar 0) (wNil))) (wNil)))))
theorem hl_first_form (C_Ties : Addr) : ∀ as Q, (S_first_form C_Ties) as Q → as.length = 1 := by
  intro as Q h
  unfold S_first_form at h
  split at h <;> first | rfl | exact h.elim
abbrev vS_first_form (C_Ties : Addr) : Prop := ∀ as Q, (S_first_form C_Ties) as Q → w_first_form C_Ties ⟨fun _ => Q (.fz .none), fun r _ => Q r, fun _ => False, fun _ => False⟩ (entry N_first_form as)
/-! is_order_of -/
abbrev N_is_order_of : List Str := ["thing", "many", "one"]
def w_is_order_of : WS := wSeq (wIfS (wOr (wNot (wTest (wCallP S_is_row (wCons (wVar 0) (wCons (wVar 1) (wCons (wVar 1) (wNil))))))) (wNot (wTest (wCB rdAll (wCons (wLc (wAny (wVar 0)) (gN 2) (wYes) (wCallP S_is_within (wCons (wVar 2) (wCons (wC (.int 0)) (wCons (wOp rdSub (wVar 1) (wC (.int 1))) (wNil))))) [2]) (wNil)))))) (wRet (wC (.bool false))) (wNext))
  (wRet (wOp (rdEq false) (wLenSetI (wVar 0)) (wVar 1)))
theorem hl_is_order_of : ∀ as Q, (S_is_order_of) as Q → as.length = 2 := by
  intro as Q h
  unfold S_is_order_of at h
  split at h <;> first | rfl | exact h.elim
abbrev vS_is_order_of : Prop := ∀ as Q, (S_is_order_of) as Q → w_is_order_of ⟨fun _ => Q (.fz .none), fun r _ => Q r, fun _ => False, fun _ => False⟩ (entry N_is_order_of as)
/-! need_order -/
abbrev N_need_order : List Str := ["many", "order"]
def w_need_order : WS := wIfS (wNot (wTest (wCallP S_is_order_of (wCons (wVar 1) (wCons (wVar 0) (wNil)))))) (wNever) (wNext)
theorem hl_need_order : ∀ as Q, (S_need_order) as Q → as.length = 2 := by
  intro as Q h
  unfold S_need_order at h
  split at h <;> first | rfl | exact h.elim
abbrev vS_need_order : Prop := ∀ as Q, (S_need_order) as Q → w_need_order ⟨fun _ => Q (.fz .none), fun r _ => Q r, fun _ => False, fun _ => False⟩ (entry N_need_order as)
/-! renamed -/
abbrev N_renamed : List Str := ["web", "order"]
def w_renamed : WS := wSeq (wDrop (wCallP S_need_web (wCons (wVar 0) (wNil))))
  (wSeq (wDrop (wCallP S_need_order (wCons (wOp rdIx (wVar 0) (wC (.int 0))) (wCons (wVar 1) (wNil)))))
  (wRet (wCallP S_renamed_web (wCons (wVar 0) (wCons (wVar 1) (wNil))))))
theorem hl_renamed : ∀ as Q, (S_renamed) as Q → as.length = 2 := by
  intro as Q h
  unfold S_renamed at h
  split at h <;> first | rfl | exact h.elim
abbrev vS_renamed : Prop := ∀ as Q, (S_renamed) as Q → w_renamed ⟨fun _ => Q (.fz .none), fun r _ => Q r, fun _ => False, fun _ => False⟩ (entry N_renamed as)
/-! things_tied -/
abbrev N_things_tied : List Str := ["ties", "thing"]
def w_things_tied (C_Ties : Addr) : WS := wRet (wCallP S_lot_of (wCons (wOp rdIx (wFld C_Ties "to" (wVar 0)) (wVar 1)) (wNil)))
theorem hl_things_tied (C_Ties : Addr) : ∀ as Q, (S_things_tied C_Ties) as Q → as.length = 2 := by
  intro as Q h
  unfold S_things_tied at h
  split at h <;> first | rfl | exact h.elim
abbrev vS_things_tied (C_Ties : Addr) : Prop := ∀ as Q, (S_things_tied C_Ties) as Q → w_things_tied C_Ties ⟨fun _ => Q (.fz .none), fun r _ => Q r, fun _ => False, fun _ => False⟩ (entry N_things_tied as)
/-! Likeness.fits -/
abbrev N_Likeness_fits : List Str := ["self", "row", "thing", "place", "at", "one"]
def w_Likeness_fits (C_Likeness : Addr) (C_Ties : Addr) : WS := wSeq (wSet 3 (wCB rdLen (wCons (wVar 1) (wNil))))
  (wSeq (wIfS (wOr (wTest (wOp (rdIn false) (wVar 2) (wVar 1))) (wTest (wOp (rdEq true) (wCB rdLen (wCons (wCallP (S_things_tied C_Ties) (wCons (wFld C_Likeness "ties" (wVar 0)) (wCons (wVar 2) (wNil)))) (wNil))) (wCB rdLen (wCons (wCallP (S_things_tied C_Ties) (wCons (wFld C_Likeness "goal" (wVar 0)) (wCons (wVar 3) (wNil)))) (wNil)))))) (wRet (wC (.bool false))) (wNext))
  (wRet (wCB rdAll (wCons (wLc (wEnumX (wCons (wVar 1) (wNil))) (gT 2 (gCons' (gN 4) (gCons' (gN 5) (gNil')))) (wYes) (wOp (rdEq false) (wMeth C_Ties "are_tied" ((S_Ties_are_tied C_Ties)) (wFld C_Likeness "ties" (wVar 0)) (wCons (wVar 5) (wCons (wVar 2) (wNil)))) (wMeth C_Ties "are_tied" ((S_Ties_are_tied C_Ties)) (wFld C_Likeness "goal" (wVar 0)) (wCons (wVar 4) (wCons (wVar 3) (wNil))))) [4, 5]) (wNil)))))
theorem hl_Likeness_fits (C_Likeness : Addr) (C_Ties : Addr) : ∀ as Q, (S_Likeness_fits C_Likeness C_Ties) as Q → as.length = 3 := by
  intro as Q h
  unfold S_Likeness_fits at h
  split at h <;> first | rfl | exact h.elim
abbrev vS_Likeness_fits (C_Likeness : Addr) (C_Ties : Addr) : Prop := ∀ as Q, (S_Likeness_fits C_Likeness C_Ties) as Q → w_Likeness_fits C_Likeness C_Ties ⟨fun _ => Q (.fz .none), fun r _ => Q r, fun _ => False, fun _ => False⟩ (entry N_Likeness_fits as)
/-! Likeness.first -/
abbrev N_Likeness_first : List Str := ["self", "many", "rows", "place", "later", "row", "thing"]
def lp1_Likeness_first (C_Likeness : Addr) (C_Ties : Addr) : WS := wFor (wAny (wVar 2)) (gN 5) (wDrop (wExtA 4 (wLc (wRange1 (wCons (wVar 1) (wNil))) (gN 6) (wTest (wMeth C_Likeness "fits" ((S_Likeness_fits C_Likeness C_Ties)) (wVar 0) (wCons (wVar 5) (wCons (wVar 6) (wNil))))) (wOp rdAdd (wVar 5) (wTup (wCons (wVar 6) (wNil)))) [6])))
def lp2_Likeness_first (C_Likeness : Addr) (C_Ties : Addr) : WS := wFor (wRange1 (wCons (wVar 1) (wNil))) (gN 3) (wSeq (wSet 4 (wLst (wNil)))
  (wSeq ((lp1_Likeness_first C_Likeness C_Ties))
  (wSet 2 (wVar 4))))
def w_Likeness_first (C_Likeness : Addr) (C_Ties : Addr) : WS := wSeq (wSet 1 (wFld C_Ties "many" (wFld C_Likeness "ties" (wVar 0))))
  (wSeq (wIfS (wTest (wOp (rdEq true) (wVar 1) (wFld C_Ties "many" (wFld C_Likeness "goal" (wVar 0))))) (wRet (wC .none)) (wNext))
  (wSeq (wZ 2 (wSet 2 (wLst (wCons (wTup (wNil)) (wNil)))))
  (wSeq ((lp2_Likeness_first C_Likeness C_Ties))
  (wRet (wIf (wTest (wOp (rdEq true) (wVar 2) (wLst (wNil)))) (wOp rdIx (wVar 2) (wC (.int 0))) (wC .none))))))
theorem hl_Likeness_first (C_Likeness : Addr) (C_Ties : Addr) : ∀ as Q, (S_Likeness_first C_Likeness C_Ties) as Q → as.length = 1 := by
  intro as Q h
  unfold S_Likeness_first at h
  split at h <;> first | rfl | exact h.elim
abbrev vS_Likeness_first (C_Likeness : Addr) (C_Ties : Addr) : Prop := ∀ as Q, (S_Likeness_first C_Likeness C_Ties) as Q → w_Likeness_first C_Likeness C_Ties ⟨fun _ => Q (.fz .none), fun r _ => Q r, fun _ => False, fun _ => False⟩ (entry N_Likeness_first as)
/-! first_likeness -/
abbrev N_first_likeness : List Str := ["web", "other"]
def w_first_likeness (C_Likeness : Addr) (C_Ties : Addr) : WS := wRet (wMeth C_Likeness "first" ((S_Likeness_first C_Likeness C_Ties)) (wMake_Likeness C_Likeness C_Ties (wCons (wVar 0) (wCons (wVar 1) (wNil)))) (wNil))
theorem hl_first_likeness (C_Likeness : Addr) (C_Ties : Addr) : ∀ as Q, (S_first_likeness C_Likeness C_Ties) as Q → as.length = 2 := by
  intro as Q h
  unfold S_first_likeness at h
  split at h <;> first | rfl | exact h.elim
abbrev vS_first_likeness (C_Likeness : Addr) (C_Ties : Addr) : Prop := ∀ as Q, (S_first_likeness C_Likeness C_Ties) as Q → w_first_likeness C_Likeness C_Ties ⟨fun _ => Q (.fz .none), fun r _ => Q r, fun _ => False, fun _ => False⟩ (entry N_first_likeness as)
/-! alike_webs -/
abbrev N_alike_webs : List Str := ["web", "other"]
def w_alike_webs (C_Likeness : Addr) (C_Ties : Addr) : WS := wSeq (wDrop (wCallP S_need_web (wCons (wVar 0) (wNil))))
  (wSeq (wDrop (wCallP S_need_web (wCons (wVar 1) (wNil))))
  (wSeq (wIfS (wTest (wOp rdGt (wCB rdMax (wCons (wLst (wCons (wOp rdIx (wVar 0) (wC (.int 0))) (wCons (wOp rdIx (wVar 1) (wC (.int 0))) (wNil)))) (wNil))) (wC (.int 8)))) (wNever) (wNext))
  (wRet (wCallP (S_first_likeness C_Likeness C_Ties) (wCons (wVar 0) (wCons (wVar 1) (wNil)))))))
theorem hl_alike_webs (C_Likeness : Addr) (C_Ties : Addr) : ∀ as Q, (S_alike_webs C_Likeness C_Ties) as Q → as.length = 2 := by
  intro as Q h
  unfold S_alike_webs at h
  split at h <;> first | rfl | exact h.elim
abbrev vS_alike_webs (C_Likeness : Addr) (C_Ties : Addr) : Prop := ∀ as Q, (S_alike_webs C_Likeness C_Ties) as Q → w_alike_webs C_Likeness C_Ties ⟨fun _ => Q (.fz .none), fun r _ => Q r, fun _ => False, fun _ => False⟩ (entry N_alike_webs as)
/-! _law_first -/
abbrev N__law_first : List Str := ["web", "orders", "ties", "at", "some", "order", "thing", "columns", "one", "least", "column"]
def lp1__law_first : WS := wFor (wAny (wVar 1)) (gN 5) (wDrop (wExtA 4 (wLc (wRange1 (wCons (wOp rdIx (wVar 0) (wC (.int 0))) (wNil))) (gN 6) (wTest (wOp (rdIn true) (wVar 6) (wVar 5))) (wOp rdAdd (wVar 5) (wTup (wCons (wVar 6) (wNil)))) [6])))
def lp2__law_first : WS := wFor (wRange1 (wCons (wOp rdIx (wVar 0) (wC (.int 0))) (wNil))) (gN 3) (wSeq (wSet 4 (wLst (wNil)))
  (wSeq (lp1__law_first)
  (wSeq (wZ 7 (wSet 7 (wLc (wAny (wVar 4)) (gN 5) (wYes) (wCB rdTuple (wCons (wLc (wAny (wSl rdSl (wVar 5) (wNo) (wSome (wUn rdNeg (wC (.int 1)))))) (gN 8) (wYes) (wCB rdInt (wCons (wOp (rdInX false) (wTup (wCons (wCB rdMin2 (wCons (wVar 8) (wCons (wOp rdIx (wVar 5) (wUn rdNeg (wC (.int 1)))) (wNil)))) (wCons (wCB rdMax2 (wCons (wVar 8) (wCons (wOp rdIx (wVar 5) (wUn rdNeg (wC (.int 1)))) (wNil)))) (wNil)))) (wOp rdIx (wVar 0) (wC (.int 1)))) (wNil))) [8]) (wNil))) [5])))
  (wSeq (wSet 9 (wCB (rdBest PySem.W.minD) (wCons (wVar 7) (wNil))))
  (wSeq (wZ 1 (wSet 1 (wLc (wZip (wCons (wVar 4) (wCons (wVar 7) (wNil)))) (gT 2 (gCons' (gN 5) (gCons' (gN 10) (gNil')))) (wTest (wOp (rdEq false) (wVar 10) (wVar 9))) (wVar 5) [5, 10])))
  (wDrop (wExtA 2 (wLc (wRange1 (wCons (wVar 3) (wNil))) (gN 8) (wTest (wOp (rdEq false) (wOp rdIx (wVar 9) (wVar 8)) (wC (.int 1)))) (wTup (wCons (wVar 8) (wCons (wVar 3) (wNil)))) [8]))))))))
def tl2__law_first : WS := wRet (wCallP S__law_made (wCons (wOp rdIx (wVar 0) (wC (.int 0))) (wCons (wVar 2) (wNil))))
def tl1__law_first : WS := wSeq (lp2__law_first)
  tl2__law_first
def w__law_first : WS := wSeq (wZ 1 (wPar [1, 2] (wRCons (wLst (wCons (wTup (wNil)) (wNil))) (wRCons (wLst (wNil)) (wRNil)))))
  tl1__law_first
theorem hl__law_first : ∀ as Q, (S__law_first) as Q → as.length = 1 := by
  intro as Q h
  unfold S__law_first at h
  split at h <;> first | rfl | exact h.elim
abbrev vS__law_first : Prop := ∀ as Q, (S__law_first) as Q → w__law_first ⟨fun _ => Q (.fz .none), fun r _ => Q r, fun _ => False, fun _ => False⟩ (entry N__law_first as)
/-! _law_right -/
abbrev N__law_right : List Str := ["feed", "web", "kept", "due", "called", "order"]
def tl4__law_right (C_Likeness : Addr) (C_Ties : Addr) : WS := wRet (wAndV (wOp (rdIs true) (wVar 5) (wC .none)) (wAndV (wOp (rdEq false) (wCallP S_renamed (wCons (wVar 1) (wCons (wVar 5) (wNil)))) (wVar 3)) (wOp (rdEq false) (wCB rdRepr (wCons (wVar 1) (wNil))) (wVar 2))))
def tl3__law_right (C_Likeness : Addr) (C_Ties : Addr) : WS := wSeq (wZ 5 (wSet 5 (wCallP (S_alike_webs C_Likeness C_Ties) (wCons (wVar 1) (wCons (wVar 3) (wNil))))))
  (tl4__law_right C_Likeness C_Ties)
def tl2__law_right (C_Likeness : Addr) (C_Ties : Addr) : WS := wSeq (wIfS (wTest (wOp (rdEq true) (wCB rdRepr (wCons (wLst (wCons (wCallP (S_first_form C_Ties) (wCons (wVar 1) (wNil))) (wCons (wCallP (S_first_form C_Ties) (wCons (wVar 1) (wNil))) (wCons (wCallP (S_first_form C_Ties) (wCons (wVar 4) (wNil))) (wCons (wCallP (S_first_form C_Ties) (wCons (wVar 3) (wNil))) (wNil)))))) (wNil))) (wCB rdRepr (wCons (wRep (wLst (wCons (wVar 3) (wNil))) (wC (.int 4))) (wNil))))) (wRet (wC (.bool false))) (wNext))
  (tl3__law_right C_Likeness C_Ties)
def tl1__law_right (C_Likeness : Addr) (C_Ties : Addr) : WS := wSeq (wZ 4 (wSet 4 (wCallP S_renamed (wCons (wVar 1) (wCons (wCB rdTuple (wCons (wCallF S__law_mixed 0 (wCons (wListRg1 (wOp rdIx (wVar 1) (wC (.int 0)))) (wNil))) (wNil))) (wNil))))))
  (tl2__law_right C_Likeness C_Ties)
def w__law_right (C_Likeness : Addr) (C_Ties : Addr) : WS := wSeq (wZ 3 (wPar [2, 3] (wRCons (wCB rdRepr (wCons (wVar 1) (wNil))) (wRCons (wCallP S__law_first (wCons (wVar 1) (wNil))) (wRNil)))))
  (tl1__law_right C_Likeness C_Ties)
theorem hl__law_right (C_Likeness : Addr) (C_Ties : Addr) : ∀ fs as Q, (S__law_right C_Likeness C_Ties) fs as Q → as.length + 1 = 2 := by
  intro fs as Q h
  unfold S__law_right at h
  split at h <;> first | rfl | exact h.elim
abbrev vS__law_right (C_Likeness : Addr) (C_Ties : Addr) : Prop := ∀ fs as Q, (S__law_right C_Likeness C_Ties) fs as Q → ∀ a, w__law_right C_Likeness C_Ties ⟨fun _ => False, fun r ρ => ∃ d fs', r.dat = some d ∧ ρ[0]? = some (.bw a fs') ∧ Q d fs', fun _ => False, fun _ => False⟩ (entry N__law_right (.bw a fs :: as))
/-! watch_lots -/
abbrev N_watch_lots : List Str := ["web", "ties", "found", "lot", "seen", "thing"]
def lp1_watch_lots (C_Ties : Addr) : WS := wFor (wAny (wCallP S_things_of (wCons (wVar 3) (wNil)))) (gN 5) (wAug 4 rdOr (wOp rdIx (wFld C_Ties "to" (wVar 1)) (wVar 5)))
def lp2_watch_lots (C_Ties : Addr) : WS := wFor (wRange1 (wCons (wOp rdAdd (wFld C_Ties "whole" (wVar 1)) (wC (.int 1))) (wNil))) (gN 3) (wSeq (wSet 4 (wVar 3))
  (wSeq ((lp1_watch_lots C_Ties))
  (wIfS (wTest (wOp (rdEq false) (wVar 4) (wFld C_Ties "whole" (wVar 1)))) (wDrop (wAppend 2 (wTup (wCons (wCB rdLen (wCons (wCallP S_things_of (wCons (wVar 3) (wNil))) (wNil))) (wCons (wCB rdTuple (wCons (wCallP S_things_of (wCons (wVar 3) (wNil))) (wNil))) (wNil)))))) (wNext))))
def w_watch_lots (C_Ties : Addr) : WS := wSeq (wSet 1 (wMake_Ties C_Ties (wCons (wVar 0) (wNil))))
  (wSeq (wSet 2 (wLst (wNil)))
  (wSeq ((lp2_watch_lots C_Ties))
  (wRet (wOp rdIx (wCB (rdBest PySem.W.minD) (wCons (wVar 2) (wNil))) (wC (.int 1))))))
theorem hl_watch_lots (C_Ties : Addr) : ∀ as Q, (S_watch_lots C_Ties) as Q → as.length = 1 := by
  intro as Q h
  unfold S_watch_lots at h
  split at h <;> first | rfl | exact h.elim
abbrev vS_watch_lots (C_Ties : Addr) : Prop := ∀ as Q, (S_watch_lots C_Ties) as Q → w_watch_lots C_Ties ⟨fun _ => Q (.fz .none), fun r _ => Q r, fun _ => False, fun _ => False⟩ (entry N_watch_lots as)
/-! fewest_watch -/
abbrev N_fewest_watch : List Str := ["web"]
def w_fewest_watch (C_Ties : Addr) : WS := wSeq (wDrop (wCallP S_need_web (wCons (wVar 0) (wNil))))
  (wRet (wCallP (S_watch_lots C_Ties) (wCons (wVar 0) (wNil))))
theorem hl_fewest_watch (C_Ties : Addr) : ∀ as Q, (S_fewest_watch C_Ties) as Q → as.length = 1 := by
  intro as Q h
  unfold S_fewest_watch at h
  split at h <;> first | rfl | exact h.elim
abbrev vS_fewest_watch (C_Ties : Addr) : Prop := ∀ as Q, (S_fewest_watch C_Ties) as Q → w_fewest_watch C_Ties ⟨fun _ => Q (.fz .none), fun r _ => Q r, fun _ => False, fun _ => False⟩ (entry N_fewest_watch as)
/-! _law_all -/
abbrev N__law_all : List Str := ["web"]
def w__law_all : WS := wRet (wListRg1 (wOp rdIx (wVar 0) (wC (.int 0))))
theorem hl__law_all : ∀ as Q, (S__law_all) as Q → as.length = 1 := by
  intro as Q h
  unfold S__law_all at h
  split at h <;> first | rfl | exact h.elim
abbrev vS__law_all : Prop := ∀ as Q, (S__law_all) as Q → w__law_all ⟨fun _ => Q (.fz .none), fun r _ => Q r, fun _ => False, fun _ => False⟩ (entry N__law_all as)
/-! _law_lots -/
abbrev N__law_lots : List Str := ["things", "found", "thing", "lot", "size"]
def lp1__law_lots : WS := wFor (wAny (wVar 0)) (gN 2) (wZ 1 (wSet 1 (wOp rdAdd (wVar 1) (wLc (wAny (wVar 1)) (gN 3) (wYes) (wOp rdAdd (wVar 3) (wTup (wCons (wVar 2) (wNil)))) [3]))))
def w__law_lots : WS := wSeq (wZ 1 (wSet 1 (wLst (wCons (wTup (wNil)) (wNil)))))
  (wSeq (lp1__law_lots)
  (wRet (wLc (wAny (wCB rdSorted (wCons (wLc (wAny (wVar 1)) (gN 3) (wYes) (wTup (wCons (wCB rdLen (wCons (wVar 3) (wNil))) (wCons (wVar 3) (wNil)))) [3]) (wNil)))) (gT 2 (gCons' (gN 4) (gCons' (gN 3) (gNil')))) (wYes) (wVar 3) [4, 3])))
theorem hl__law_lots : ∀ as Q, (S__law_lots) as Q → as.length = 1 := by
  intro as Q h
  unfold S__law_lots at h
  split at h <;> first | rfl | exact h.elim
abbrev vS__law_lots : Prop := ∀ as Q, (S__law_lots) as Q → w__law_lots ⟨fun _ => Q (.fz .none), fun r _ => Q r, fun _ => False, fun _ => False⟩ (entry N__law_lots as)
/-! _law_watch_right -/
abbrev N__law_watch_right : List Str := ["web", "near", "kept", "due", "lot", "thing", "other"]
def lp1__law_watch_right (C_Ties : Addr) : WS := wFor (wAny (wCallP S__law_lots (wCons (wCallP S__law_all (wCons (wVar 0) (wNil))) (wNil)))) (gN 4) (wIfS (wTest (wOp (rdEq false) (wLc (wAny (wCallP S__law_all (wCons (wVar 0) (wNil)))) (gN 5) (wAnd (wTest (wOp (rdIn true) (wVar 5) (wVar 4))) (wTest (wOp (rdEq false) (wLc (wAny (wOp rdIx (wVar 1) (wVar 5))) (gN 6) (wTest (wOp (rdIn false) (wVar 6) (wVar 4))) (wVar 6) [6]) (wLst (wNil))))) (wVar 5) [5]) (wLst (wNil)))) (wSeq (wSet 3 (wVar 4))
  (wBreak)) (wNext))
def tl3__law_watch_right (C_Ties : Addr) : WS := wRet (wAndV (wOp (rdEq false) (wCB rdRepr (wCons (wLst (wCons (wCallP (S_fewest_watch C_Ties) (wCons (wVar 0) (wNil))) (wCons (wCallP (S_fewest_watch C_Ties) (wCons (wVar 0) (wNil))) (wNil)))) (wNil))) (wCB rdRepr (wCons (wLst (wCons (wVar 3) (wCons (wVar 3) (wNil)))) (wNil)))) (wOp (rdEq false) (wCB rdRepr (wCons (wVar 0) (wNil))) (wVar 2)))
def tl2__law_watch_right (C_Ties : Addr) : WS := wSeq ((lp1__law_watch_right C_Ties))
  (tl3__law_watch_right C_Ties)
def tl1__law_watch_right (C_Ties : Addr) : WS := wSeq (wSet 3 (wC .none))
  (tl2__law_watch_right C_Ties)
def w__law_watch_right (C_Ties : Addr) : WS := wSeq (wZ 1 (wPar [1, 2] (wRCons (wCallP S__law_near (wCons (wVar 0) (wNil))) (wRCons (wCB rdRepr (wCons (wVar 0) (wNil))) (wRNil)))))
  (tl1__law_watch_right C_Ties)
theorem hl__law_watch_right (C_Ties : Addr) : ∀ as Q, (S__law_watch_right C_Ties) as Q → as.length = 1 := by
  intro as Q h
  unfold S__law_watch_right at h
  split at h <;> first | rfl | exact h.elim
abbrev vS__law_watch_right (C_Ties : Addr) : Prop := ∀ as Q, (S__law_watch_right C_Ties) as Q → w__law_watch_right C_Ties ⟨fun _ => Q (.fz .none), fun r _ => Q r, fun _ => False, fun _ => False⟩ (entry N__law_watch_right as)
/-! law -/
abbrev N_law : List Str := ["script", "k", "feed"]
def lp1_law (C_Likeness : Addr) (C_Ties : Addr) : WS := wFor (wRange1 (wCons (wCB rdMax2 (wCons (wC (.int 1)) (wCons (wCB rdMin2 (wCons (wCB rdLen (wCons (wVar 0) (wNil))) (wCons (wC (.int 3)) (wNil)))) (wNil)))) (wNil))) (gN 1) (wSeq (wSet 2 (wCallP S__law_feed (wCons (wVar 0) (wCons (wVar 1) (wNil)))))
  (wSeq (wIfS (wOr (wNot (wTest (wCallF (S__law_right C_Likeness C_Ties) 2 (wCons (wCallF S__law_web 2 (wCons (wC (.int 6)) (wNil))) (wNil))))) (wNot (wTest (wCallF (S__law_right C_Likeness C_Ties) 2 (wCons (wCallF S__law_web 2 (wCons (wCallF S__law_one 2 (wCons (wLst (wCons (wC (.int 5)) (wCons (wC (.int 7)) (wNil)))) (wNil))) (wNil))) (wNil)))))) (wRet (wC (.bool false))) (wNext))
  (wIfS (wOr (wNot (wTest (wCallP (S__law_watch_right C_Ties) (wCons (wCallF S__law_web 2 (wCons (wC (.int 7)) (wNil))) (wNil))))) (wNot (wTest (wCallP (S__law_watch_right C_Ties) (wCons (wCallF S__law_web 2 (wCons (wC (.int 10)) (wNil))) (wNil)))))) (wRet (wC (.bool false))) (wNext))))
def w_law (C_Likeness : Addr) (C_Ties : Addr) : WS := wSeq ((lp1_law C_Likeness C_Ties))
  (wRet (wC (.bool true)))
theorem hl_law (C_Likeness : Addr) (C_Ties : Addr) : ∀ as Q, (S_law C_Likeness C_Ties) as Q → as.length = 1 := by
  intro as Q h
  unfold S_law at h
  split at h <;> first | rfl | exact h.elim
abbrev vS_law (C_Likeness : Addr) (C_Ties : Addr) : Prop := ∀ as Q, (S_law C_Likeness C_Ties) as Q → w_law C_Likeness C_Ties ⟨fun _ => Q (.fz .none), fun r _ => Q r, fun _ => False, fun _ => False⟩ (entry N_law as)
end K87

set_option Elab.async false
set_option linter.all false
set_option maxRecDepth 100000
set_option maxHeartbeats 1000000
namespace G
open PySem PySem.Spec PyProof.Rows L2 DC
theorem mulL {a b : Int} (h : a.natAbs < 2 ^ 64) : IntMulOk a b := IntMulOk.of_left (PyProof.Rows.intBits_le h)
theorem mulR {a b : Int} (h : b.natAbs < 2 ^ 64) : IntMulOk a b := IntMulOk.of_right (PyProof.Rows.intBits_le h)
theorem vc__law_feed : vS__law_feed := by
  intro as Q h
  unfold S__law_feed at h
  split at h
  · rename_i ds k
    obtain ⟨ns, rfl, hl, h0, h1, h⟩ := h
    have m1 : IntMulOk 977 k := mulL (by decide)
    have m2 : ∀ c, IntMulOk c 19 := fun c => mulR (by decide)
    have m3 : IntMulOk 7 k := mulL (by decide)
    simp [w__law_feed, CPow, m1, m2, m3]
    refine ⟨(ns.take 1), by simp, ?_⟩
    have fin : ∀ cell : Int, Q (.nl [.int (if cell - 1000000000000000000 > 0 then cell - 1000000000000000000 else 0), .int ((cell * 19 + 7 * k) % 1000000000000000000000000000000000000023), .int 0]) := fun cell => by
      refine h _ ⟨_, _, _, rfl, ?_, Int.emod_nonneg _ (by decide), ?_, by decide, by decide⟩
      · split <;> omega
      · have := Int.emod_lt_of_pos (cell * 19 + 7 * k) (show (0 : Int) < 1000000000000000000000000000000000000023 by decide)
        omega
    by_cases c : k < ns.length
    · have e : ∃ x, atI (ns.map PyData.int) k = some (.int x) := by
        obtain ⟨j, rfl⟩ := Int.eq_ofNat_of_zero_le h0
        have hj : j < ns.length := by omega
        exact ⟨ns[j], by rw [atI_n, List.getElem?_map, List.getElem?_eq_getElem hj]; rfl⟩
      obtain ⟨x, e⟩ := e
      simp [c, e]
      exact ⟨m2 _, by simpa using fin x⟩
    · simp [c]
      simpa using fin (977 * k + (ns.take 1).sum)
  · exact h.elim
theorem vc__law_draw : vS__law_draw := by
  intro fs as Q h a
  unfold S__law_draw at h
  split at h
  · rename_i m
    obtain ⟨B, ⟨A, b, c, rfl, hA, hb0, hb1, hc0, hc1⟩, m0, m1, hB, h0⟩ := h
    have h : ∀ (r : Int) (fs' : List PyData), 0 ≤ r → r < m → Fd (B + 1) fs' → Q (.int r) fs' := fun r fs' r0 r1 hf => by
      obtain ⟨w, rfl⟩ := Int.eq_ofNat_of_zero_le r0
      exact h0 w fs' r1 hf
    have k1 : ∀ z, IntMulOk z m := fun z => mulR (by omega)
    have k2 : ∀ z, IntMulOk 6700417 z := fun z => mulL (by decide)
    have k3 : ∀ z, IntMulOk 15485863 z := fun z => mulL (by decide)
    have k4 : ∀ z, CDivW z m := fun z => wide_div (b := 64) m0 (by omega) (by decide) (by decide)
    simp [w__law_draw, CPow, k1, k2, k3, k4]
    by_cases hA0 : 0 < A
    · simp [hA0]
      refine h (A - A / m * m) _ ?_ ?_ ⟨A / m, b, c, rfl, Int.ediv_nonneg hA (by omega), hb0, by omega, hc0, by omega⟩
      · have := Int.emod_nonneg A (show m ≠ 0 by omega)
        have e := Int.emod_def A m
        have e2 := Int.mul_comm m (A / m)
        omega
      · have := Int.emod_lt_of_pos A m0
        have e := Int.emod_def A m
        have e2 := Int.mul_comm m (A / m)
        omega
    · simp [hA0]
      have hx : (b + 6700417 * (c + 1)).natAbs < 2 ^ 200 := by
        have : (10 : Int) ^ 39 = 1000000000000000000000000000000000000000 := by decide
        have h2 : (2 : Nat) ^ 200 = 1606938044258990275541962092341162602522202993782792835301376 := by decide
        omega
      generalize b + 6700417 * (c + 1) = x at hx ⊢
      have hy : ((x * x * x + 15485863 * (c + 1)) % 10000000000000000000000000000000000000000057).natAbs < 2 ^ 200 := by
        have z1 := Int.emod_nonneg (x * x * x + 15485863 * (c + 1)) (show (10000000000000000000000000000000000000000057 : Int) ≠ 0 by decide)
        have z2 := Int.emod_lt_of_pos (x * x * x + 15485863 * (c + 1)) (show (0 : Int) < 10000000000000000000000000000000000000000057 by decide)
        have h2 : (2 : Nat) ^ 200 = 1606938044258990275541962092341162602522202993782792835301376 := by decide
        omega
      have hxx := wide_lt hx hx
      refine ⟨(wide_mul hx hx (by decide) (by decide) (by decide)).ok, (wide_mul hxx hx (by decide) (by decide) (by decide)).ok, (wide_mul hy hy (by decide) (by decide) (by decide)).ok, wide_div (b := 64) (by decide) (by decide) (by decide) (by decide), m0, ?_⟩
      exact h _ _ (Int.emod_nonneg _ (by omega)) (Int.emod_lt_of_pos _ m0) ⟨A, b, c + 1, rfl, hA, hb0, by omega, by omega, by omega⟩
  · exact h.elim
end G

set_option Elab.async false
set_option linter.all false
set_option maxRecDepth 100000
set_option maxHeartbeats 1000000
namespace G
open PySem PySem.Spec PyProof.Rows L2 DC
theorem Fd.up {B B' : Nat} {fs : List PyData} (h : Fd B fs) (hb : B ≤ B') : Fd B' fs := by
  obtain ⟨x, y, z, e, q1, q2, q3, q4, q5⟩ := h
  exact ⟨x, y, z, e, q1, q2, q3, q4, by omega⟩
theorem vc__law_one : vS__law_one := by
  intro fs as Q h a
  unfold S__law_one at h
  split at h
  · rename_i d
    obtain ⟨B, ds, hf, hd, hne, hl, hB, h⟩ := h
    have fin : ∀ (r : Nat) (fs' : List PyData), (r : Int) < ds.length → Fd (B + 1) fs' → ∃ x, atI ds (r : Int) = some x ∧ Q x fs' := fun r fs' h1 hf' => by
      have hj : r < ds.length := by omega
      exact ⟨ds[r], by rw [atI_n, List.getElem?_eq_getElem hj], h _ _ (List.getElem_mem hj) hf'⟩
    have hp := List.length_pos_iff.mpr hne
    rcases hd with rfl | rfl
    all_goals
      simp [w__law_one, S__law_draw]
      refine ⟨B, hf, hp, by omega, hB, fun r fs' h1 hf' => ?_⟩
      obtain ⟨x, e, q⟩ := fin r fs' (by omega) hf'
      simp [e]
      exact q
  · exact h.elim
theorem perm_pick {α : Type} {P : List α} {j : Nat} (hj : j < P.length) : (P[j] :: P.eraseIdx j).Perm P := by
  have e : P = P.take j ++ P[j] :: P.drop (j + 1) := by
    rw [← List.drop_eq_getElem_cons hj, List.take_append_drop]
  rw [List.eraseIdx_eq_take_drop_succ]
  have := (List.perm_middle (a := P[j]) (l₁ := P.take j) (l₂ := P.drop (j + 1))).symm
  rw [← e] at this
  exact this
theorem vc__law_mixed : vS__law_mixed := by
  intro fs as Q h a
  unfold S__law_mixed at h
  split at h
  · rename_i d
    obtain ⟨B, ds, hf, hd, hl, hB, h⟩ := h
    rcases hd with rfl | rfl
    all_goals
      simp [w__law_mixed, lp1__law_mixed]
      refine ⟨by omega, ?_⟩
      refine forD_inv (fun i ρ => ∃ (P G : List PyData) (fs : List PyData) (x y : Sl), Fd (B + i) fs ∧ (G ++ P).Perm ds ∧ G.length = i ∧ ρ = [.bw a fs, y, .ow P, .ow G, x]) ⟨ds, [], fs, .un, _, hf, by simp, rfl, rfl⟩ ?_ ?_
      · rintro i d ρ hd ⟨P, G, fs, x, y, hf, hp, hG, rfl⟩ N hN
        have hi : i < ds.length := by
          have := (List.getElem?_eq_some_iff.mp hd).1
          simpa using this
        have hlen := hp.length_eq
        rw [List.length_append] at hlen
        simp [S__law_draw]
        refine ⟨B + i, hf, by omega, by omega, by omega, fun j fs' h1 hf' => ?_⟩
        have hj : j < P.length := by omega
        have e : P[j]? = some P[j] := List.getElem?_eq_getElem hj
        simp [e]
        refine ⟨by omega, by omega, hN _ ⟨P.eraseIdx j, G ++ [P[j]], fs', .fz d, y, hf', ?_, by simp [hG], ?_⟩⟩
        · rw [List.append_assoc]
          refine List.Perm.trans (List.Perm.append_left G ?_) hp
          exact (perm_pick hj)
        · rfl
      · rintro ρ ⟨P, G, fs, x, y, hf, hp, hG, rfl⟩
        simp at hf hG
        have hlen := hp.length_eq
        rw [List.length_append] at hlen
        have hP : P = [] := List.eq_nil_of_length_eq_zero (by omega)
        subst hP
        simp at hp
        simp
        exact h _ _ hp hf
  · exact h.elim
theorem vc__law_tree_ties : vS__law_tree_ties := by
  intro fs as Q h a
  unfold S__law_tree_ties at h
  split at h
  · rename_i m
    obtain ⟨B, n, hf, hB, rfl, h2, h⟩ := h
    simp [w__law_tree_ties, S__law_draw]
    refine ⟨B, hf, by omega, fun way0 fs1 w3 hf1 => ?_⟩
    generalize hway : ((way0 : Nat) : Int) = way
    refine ⟨by omega, by omega, lcD_inv (fun i acc ρ => ∃ (f : Nat → Nat) (fs : List PyData), (∀ j, j < i → f j < j + 1) ∧ acc = (List.range i).map (fun j => tieD (f j, j + 1)) ∧ Fd (B + 1 + i) fs ∧ ρ = [.bw a fs, .fz (.int n), .fz (.int way), .un]) ⟨fun _ => 0, fs1, by simp, rfl, hf1, rfl⟩ ?_ ?_⟩
    · rintro i d acc ρ hd ⟨f, fs2, hfl, rfl, hf2, rfl⟩ N hN
      have hi : i < n - 1 := by
        have := (List.getElem?_eq_some_iff.mp hd).1
        simpa using this
      have hd' : d = .int (1 + (i : Int)) := by
        rw [List.getElem?_map, List.getElem?_range hi] at hd
        exact (Option.some.inj hd).symm
      subst hd'
      have fin : ∀ (k : Int) (fs3 : List PyData), 0 ≤ k → k ≤ i → Fd (B + 1 + (i + 1)) fs3 → N (some (.tuple [.int (1 + (i : Int) - 1 - k), .int (1 + (i : Int))])) [.bw a fs3, .fz (.int n), .fz (.int way), .un] := fun k fs3 k0 k1 hf3 => by
        have e : (PyData.tuple [.int (1 + (i : Int) - 1 - k), .int (1 + (i : Int))]) = tieD ((i - k.toNat), i + 1) := by
          unfold tieD
          have e1 : 1 + (i : Int) - 1 - k = ((i - k.toNat : Nat) : Int) := by omega
          have e2 : 1 + (i : Int) = ((i + 1 : Nat) : Int) := by omega
          rw [e1, e2]
        rw [e]
        refine hN _ _ ⟨fun j => if j = i then i - k.toNat else f j, fs3, fun j hj => ?_, ?_, hf3, rfl⟩
        · by_cases z : j = i
          · show (if j = i then i - k.toNat else f j) < j + 1
            rw [if_pos z]
            omega
          · show (if j = i then i - k.toNat else f j) < j + 1
            rw [if_neg z]
            exact hfl j (by omega)
        · rw [List.range_succ, List.map_append]
          congr 1
          · apply List.map_congr_left
            intro j hj
            have : j ≠ i := by have := List.mem_range.mp hj; omega
            show _ = tieD (if j = i then i - k.toNat else f j, j + 1)
            rw [if_neg this]
          · simp
      have mono : Fd (B + 1 + (i + 1)) fs2 := by
        obtain ⟨x, y, z, e, q1, q2, q3, q4, q5⟩ := hf2
        exact ⟨x, y, z, e, q1, q2, q3, q4, by omega⟩
      have dr : ∀ m : Int, 0 < m → m ≤ 1 + (i : Int) →  S__law_draw fs2 [.fz (.int m)] (fun d fs' => ∀ k : Nat, d = .int (k : Int) → N (some (.tuple [.int (1 + (i : Int) - 1 - k), .int (1 + (i : Int))])) [.bw a fs', .fz (.int n), .fz (.int way), .un]) := fun m m0 m1 =>
        ⟨B + 1 + i, hf2, m0, by omega, by omega, fun r fs' r1 hf' k e => by
          have e' : r = k := by simp at e; omega
          subst e'
          exact fin r fs' (by omega) (by omega) hf'⟩
      by_cases c0 : way = 0
      · subst c0
        simp
        simpa using fin 0 fs2 (by decide) (by omega) mono
      · simp [c0]
        by_cases c1 : way = 1
        · subst c1
          simp
          obtain ⟨B', a1, a2, a3, a4, a5⟩ := dr (if 2 < 1 + (i : Int) then 2 else 1 + (i : Int)) (by split <;> omega) (by split <;> omega)
          exact ⟨B', a1, a2, a3, a4, fun r fs' r1 hf' => by simpa using a5 r fs' r1 hf' r rfl⟩
        · simp [c1]
          obtain ⟨B', a1, a2, a3, a4, a5⟩ := dr (1 + (i : Int)) (by omega) (by omega)
          exact ⟨B', a1, a2, a3, a4, fun r fs' r1 hf' => by simpa using a5 r fs' r1 hf' r rfl⟩
    · rintro acc ρ ⟨f, fs2, hfl, rfl, hf2, rfl⟩
      simp at hf2 hfl
      simp
      refine h f fs2 hfl ?_
      exact hf2.up (by omega)
  · exact h.elim
end G

set_option Elab.async false
set_option linter.all false
set_option maxRecDepth 100000
set_option maxHeartbeats 1000000
namespace G
open PySem PySem.Spec PyProof.Rows L2 DC
def norm (p : Nat × Nat) : Nat × Nat := (min p.1 p.2, max p.1 p.2)
def pairI (p : Nat × Nat) : List Int := [(p.1 : Int), (p.2 : Int)]
theorem tieD_pairI (p : Nat × Nat) : tieD p = intsT (pairI p) := rfl
theorem code_pair (p : Nat × Nat) : TS.code 1000 (pairI p) = (p.1 : Int) * 1000 + p.2 := by
  simp [TS.code, pairI]
theorem filt_map {α : Type} (p : α → Prop) [DecidablePred p] (g : α → PyData) (l : List α) : l.filterMap (fun a => if p a then some (g a) else none) = (l.filter fun a => decide (p a)).map g := by
  induction l with
  | nil => rfl
  | cons a r ih => by_cases e : p a <;> simp [e, ih]
theorem vc__law_made : vS__law_made := by
  intro as Q h
  unfold S__law_made at h
  split at h
  · rename_i m d
    obtain ⟨k, E, rfl, hd, hl, hE, h⟩ := h
    have fin : ∀ (R : List PyData → Prop), (∀ ts : List (Nat × Nat), ts.Pairwise lexL → (∀ p, p ∈ ts ↔ ∃ q ∈ E, q.1 ≠ q.2 ∧ p = norm q) → R (ts.map tieD)) →
        ∀ ds, ds = ((E.filter fun q => decide (q.1 ≠ q.2)).map fun q => tieD (norm q)) → ∃ (d : Nat) (B : Int) (nss : List (List Int)), ds = nss.map intsT ∧ nss.length < 64 ∧ 1 ≤ d ∧ (∀ ns ∈ nss, ns.length = d ∧ TS.Bd B ns) ∧ ∀ ms : List (List Int), (∀ ns, ns ∈ ms ↔ ns ∈ nss) → ms.Nodup → ms.Pairwise (fun a b => TS.code B a ≤ TS.code B b) → R (ms.map intsT) := by
      intro R hR ds hds
      refine ⟨2, 1000, (E.filter fun q => decide (q.1 ≠ q.2)).map fun q => pairI (norm q), ?_, ?_, by decide, ?_, ?_⟩
      · rw [hds, List.map_map]
        rfl
      · rw [List.length_map]
        exact Nat.lt_of_le_of_lt (List.length_filter_le _ _) (by omega)
      · intro ns hns
        obtain ⟨q, hq, rfl⟩ := List.mem_map.mp hns
        have := hE q (List.mem_filter.mp hq).1
        refine ⟨rfl, fun x hx => ?_⟩
        simp [pairI, norm] at hx
        omega
      · intro ms hm nd pw
        -- back to pairs
        have hp : ∀ ns ∈ ms, ∃ p : Nat × Nat, ns = pairI p ∧ p.1 < 1000 ∧ p.2 < 1000 := fun ns hns => by
          obtain ⟨q, hq, rfl⟩ := List.mem_map.mp ((hm ns).mp hns)
          have := hE q (List.mem_filter.mp hq).1
          exact ⟨norm q, rfl, by simp only [norm]; omega, by simp only [norm]; omega⟩
        obtain ⟨ts, rfl⟩ : ∃ ts : List (Nat × Nat), ms = ts.map pairI := by
          clear hm nd pw
          induction ms with
          | nil => exact ⟨[], rfl⟩
          | cons a r ih =>
            obtain ⟨p, rfl, _⟩ := hp a List.mem_cons_self
            obtain ⟨ts, rfl⟩ := ih fun ns hns => hp ns (List.mem_cons_of_mem _ hns)
            exact ⟨p :: ts, rfl⟩
        have hlt : ∀ p ∈ ts, p.1 < 1000 ∧ p.2 < 1000 := fun p hpt => by
          obtain ⟨q, e, h1, h2⟩ := hp _ (List.mem_map.mpr ⟨p, hpt, rfl⟩)
          simp [pairI] at e
          omega
        rw [List.map_map]
        refine hR ts ?_ fun p => ?_
        · have pw' := List.pairwise_map.mp pw
          have nd' : ts.Pairwise (fun a b => pairI a ≠ pairI b) := List.pairwise_map.mp nd
          refine List.Pairwise.imp_of_mem (fun {a b} ha hb z => ?_) (pw'.and nd')
          obtain ⟨z1, z2⟩ := z
          rw [code_pair, code_pair] at z1
          have := hlt a ha
          have := hlt b hb
          have z3 : ¬ (a.1 = b.1 ∧ a.2 = b.2) := fun e => z2 (by simp [pairI, e.1, e.2])
          unfold lexL
          omega
        · have := hm (pairI p)
          rw [List.mem_map, List.mem_map] at this
          constructor
          · intro hpt
            obtain ⟨q, hq, e⟩ := this.mp ⟨p, hpt, rfl⟩
            have hq' := List.mem_filter.mp hq
            refine ⟨q, hq'.1, of_decide_eq_true hq'.2, ?_⟩
            simp [pairI] at e
            exact Prod.ext (by omega) (by omega)
          · rintro ⟨q, hq, hne, rfl⟩
            obtain ⟨p', hp', e⟩ := this.mpr ⟨q, List.mem_filter.mpr ⟨hq, decide_eq_true hne⟩, rfl⟩
            simp [pairI] at e
            have : p' = norm q := Prod.ext (by omega) (by omega)
            exact this ▸ hp'
    have lcx : ∀ R : Rs → List Sl → Prop, (R (.nl ((E.filter fun q => decide (q.1 ≠ q.2)).map fun q => tieD (norm q))) [.fz (.int (k : Int)), .fz d, .un, .un]) →
        lcD (gT 2 (gCons' (gN 2) (gCons' (gN 3) gNil'))) (wTest (wOp (rdEq true) (wVar 2) (wVar 3))) (wTup (wCons (wCB rdMin2 (wCons (wVar 2) (wCons (wVar 3) wNil))) (wCons (wCB rdMax2 (wCons (wVar 2) (wCons (wVar 3) wNil))) wNil))) [2, 3] R (E.map tieD) [] [.fz (.int (k : Int)), .fz d, .un, .un] := fun R hR => by
      refine lcD_map tieD (fun q => if q.1 ≠ q.2 then some (tieD (norm q)) else none) (fun q hq N z => ?_) ?_
      · simp [tieD]
        by_cases e : q.1 = q.2
        · rw [if_neg (not_not_intro e)] at z
          rw [if_pos (by omega)]
          exact z
        · rw [if_pos e] at z
          rw [if_neg (by omega)]
          have e1 : (if q.2 < q.1 then (q.2 : Int) else (q.1 : Int)) = ((min q.1 q.2 : Nat) : Int) := by split <;> omega
          have e2 : (if q.1 < q.2 then (q.2 : Int) else (q.1 : Int)) = ((max q.1 q.2 : Nat) : Int) := by split <;> omega
          rw [e1, e2]
          exact z
      · rw [List.nil_append, filt_map]
        exact hR
    rcases hd with rfl | rfl
    · simp [w__law_made]
      refine ⟨by omega, lcx _ ?_⟩
      exact fin (fun es => Q (.fz (.tuple [.int (k : Int), .tuple es]))) (fun ts t1 t2 => h ts t1 t2) _ rfl
    · simp [w__law_made]
      refine ⟨by omega, lcx _ ?_⟩
      exact fin (fun es => Q (.fz (.tuple [.int (k : Int), .tuple es]))) (fun ts t1 t2 => h ts t1 t2) _ rfl
  · exact h.elim
theorem sortedD_nats {a b : List Nat} (h : a.Perm b) (asc : a.Pairwise (· < ·)) : sortedD (natsD b) = natsD a := by
  rw [natsD_ints, natsD_ints, sortedD_ints]
  congr 1
  refine (PySem.W.os_sorted_mergeSort (h.map _) ?_).symm
  exact List.pairwise_map.mpr (asc.imp fun z => by omega)
theorem asc_nbl (ts : List (Nat × Nat)) (n v : Nat) : (nbl ts (List.range n) v).Pairwise (· < ·) := List.Pairwise.sublist List.filter_sublist List.pairwise_lt_range
/-- ends of ties at v -/
def ends (ts : List (Nat × Nat)) (v : Nat) : List Nat := (ts.filter fun p => decide (p.1 = v)).map (·.2) ++ (ts.filter fun p => decide (p.2 = v)).map (·.1)
theorem mem_ends {ts : List (Nat × Nat)} {v u : Nat} : u ∈ ends ts v ↔ tied ts v u = true := by
  unfold ends tied
  simp only [List.mem_append, List.mem_map, List.mem_filter, decide_eq_true_eq]
  constructor
  · rintro (⟨⟨a, b⟩, ⟨h, rfl⟩, rfl⟩ | ⟨⟨a, b⟩, ⟨h, rfl⟩, rfl⟩)
    · exact .inl h
    · exact .inr h
  · rintro (h | h)
    · exact .inl ⟨_, ⟨h, rfl⟩, rfl⟩
    · exact .inr ⟨_, ⟨h, rfl⟩, rfl⟩
theorem ends_perm {n : Nat} {ts : List (Nat × Nat)} (ok : Ok n ts) (v : Nat) : (nbl ts (List.range n) v).Perm (ends ts v) := by
  have nt := ok_nodup ok
  refine (List.perm_ext_iff_of_nodup ((asc_nbl ts n v).imp fun z => by omega) ?_).mpr fun u => ?_
  · unfold ends
    refine List.nodup_append.mpr ⟨?_, ?_, ?_⟩
    · refine List.pairwise_map.mpr (List.Pairwise.imp_of_mem (fun {a b} ha hb z e => ?_) (nt.sublist List.filter_sublist))
      have h1 := of_decide_eq_true (List.mem_filter.mp ha).2
      have h2 := of_decide_eq_true (List.mem_filter.mp hb).2
      exact z (Prod.ext (h1.trans h2.symm) e)
    · refine List.pairwise_map.mpr (List.Pairwise.imp_of_mem (fun {a b} ha hb z e => ?_) (nt.sublist List.filter_sublist))
      have h1 := of_decide_eq_true (List.mem_filter.mp ha).2
      have h2 := of_decide_eq_true (List.mem_filter.mp hb).2
      exact z (Prod.ext e (h1.trans h2.symm))
    · intro x hx y hy e
      subst e
      obtain ⟨p, hp, rfl⟩ := List.mem_map.mp hx
      obtain ⟨q, hq, e⟩ := List.mem_map.mp hy
      have hp1 := List.mem_filter.mp hp
      have hq1 := List.mem_filter.mp hq
      have e1 := of_decide_eq_true hp1.2
      have e2 := of_decide_eq_true hq1.2
      have := ok.tie p hp1.1
      have := ok.tie q hq1.1
      omega
  · rw [mem_ends]
    unfold nbl
    rw [List.mem_filter, List.mem_range]
    exact ⟨fun z => z.2, fun z => ⟨(ok.tl z).2.1, z⟩⟩
theorem filt_map2 {α β : Type} (p : α → Prop) [DecidablePred p] (g : α → β) (l : List α) : l.filterMap (fun a => if p a then some (g a) else none) = (l.filter fun a => decide (p a)).map g := by
  induction l with
  | nil => rfl
  | cons a r ih => by_cases e : p a <;> simp [e, ih]
theorem vc__law_near : vS__law_near := by
  intro as Q h
  unfold S__law_near at h
  split at h
  · obtain ⟨n, ts, rfl, ok, h⟩ := h
    have n10 := ok.n10
    have few := ok.few
    simp [w__law_near, webD]
    refine ⟨by omega, by omega, lcD_map (fun i : Nat => PyData.int (i : Int)) (fun v : Nat => some (.list (natsD (nbl ts (List.range n) v)))) (fun v hv N q => ?_) ?_⟩
    · simp
      refine ⟨by omega, lcD_map tieD (fun p => if p.1 = v then some (.int (p.2 : Int)) else none) (fun p hp N2 q2 => ?_) ?_⟩
      · simp [tieD]
        by_cases e : p.1 = v
        · rw [if_pos e] at q2
          rw [if_pos (by omega)]
          exact q2
        · rw [if_neg e] at q2
          rw [if_neg (by omega)]
          exact q2
      · simp
        refine ⟨by omega, lcD_map tieD (fun p => if p.2 = v then some (.int (p.1 : Int)) else none) (fun p hp N2 q2 => ?_) ?_⟩
        · simp [tieD]
          by_cases e : p.2 = v
          · rw [if_pos e] at q2
            rw [if_pos (by omega)]
            exact q2
          · rw [if_neg e] at q2
            rw [if_neg (by omega)]
            exact q2
        · rw [filt_map2 (fun p : Nat × Nat => p.1 = v) (fun p => PyData.int (p.2 : Int)), filt_map2 (fun p : Nat × Nat => p.2 = v) (fun p => PyData.int (p.1 : Int)), List.nil_append]
          have e1 : (ts.filter fun p => decide (p.1 = v)).map (fun p => PyData.int (p.2 : Int)) ++ (ts.filter fun p => decide (p.2 = v)).map (fun p => PyData.int (p.1 : Int)) = natsD (ends ts v) := by
            unfold natsD ends
            rw [List.map_append, List.map_map, List.map_map]
            rfl
          have l1 := List.length_filter_le (fun p : Nat × Nat => decide (p.1 = v)) ts
          have l2 := List.length_filter_le (fun p : Nat × Nat => decide (p.2 = v)) ts
          simp only []
          rw [e1, sortedD_nats (ends_perm ok v) (asc_nbl ts n v)]
          refine ⟨by rw [List.length_map, List.length_map]; omega, ?_, q⟩
          rw [natsD_ints]
          refine sortOk_ints _ ?_
          unfold ends
          rw [List.length_map, List.length_append, List.length_map, List.length_map]
          omega
    · simp
      exact h
  · exact h.elim
end G

set_option Elab.async false
set_option linter.all false
set_option maxRecDepth 100000
set_option maxHeartbeats 1000000
/-! sorted rows of numbers -/
namespace G
open PySem PySem.Spec PyProof.Rows L2 DC
def rowD (l : List Nat) : PyData := .tuple (natsD l)
def leR (a b : List Nat) : Bool := decide (a ≤ b)
theorem cast_lt : ∀ (a b : List Nat), (a.map fun i : Nat => (i : Int)) < (b.map fun i : Nat => (i : Int)) ↔ a < b
  | [], [] => by simp
  | [], b :: bs => by simp
  | a :: as, [] => by simp
  | a :: as, b :: bs => by
    simp only [List.map_cons, List.cons_lt_cons_iff]
    rw [cast_lt as bs, Int.ofNat_lt]
    constructor
    · rintro (h | ⟨h, g⟩)
      · exact .inl h
      · exact .inr ⟨by omega, g⟩
    · rintro (h | ⟨h, g⟩)
      · exact .inl h
      · exact .inr ⟨by omega, g⟩
theorem dataLe_rowD (a b : List Nat) : PySem.W.dataLe false id (rowD a) (rowD b) = leR a b := by
  show (!PySem.W.dataLt (.tuple (natsD b)) (.tuple (natsD a))) = _
  rw [PySem.W.dataLt_tuple]
  show (!PySem.W.rowLt (natsD b) (natsD a)) = _
  rw [natsD_ints, natsD_ints, PySem.W.dataLt_ints]
  unfold leR
  rw [Bool.eq_iff_iff]
  simp only [Bool.not_eq_true', decide_eq_false_iff_not, decide_eq_true_eq, cast_lt]
  exact List.not_lt
theorem leR_total (a b : List Nat) : (leR a b || leR b a) = true := by
  unfold leR
  simp only [Bool.or_eq_true, decide_eq_true_eq]
  exact List.le_total a b
theorem leR_trans (a b c : List Nat) : leR a b = true → leR b c = true → leR a c = true := by
  unfold leR
  simp only [decide_eq_true_eq]
  exact fun h g => List.le_trans h g
theorem leR_anti {a b : List Nat} (h : leR a b = true) (g : leR b a = true) : a = b := by
  unfold leR at h g
  exact List.le_antisymm (of_decide_eq_true h) (of_decide_eq_true g)
theorem sort_eq {L M : List (List Nat)} (p : M.Perm L) (asc : M.Pairwise fun a b => leR a b = true) : L.mergeSort leR = M :=
  List.Perm.eq_of_pairwise (fun a b _ _ h g => leR_anti h g) (List.pairwise_mergeSort leR_trans leR_total L) asc ((List.mergeSort_perm L leR).trans p.symm)
theorem sortedD_map {L : List (List Nat)} : sortedD (L.map rowD) = (L.mergeSort leR).map rowD := by
  unfold sortedD
  rw [List.map_mergeSort (r := leR) (s := PySem.W.dataLe false id)]
  intro a _ b _
  exact (dataLe_rowD a b).symm
theorem sortedD_rows {L M : List (List Nat)} (p : M.Perm L) (asc : M.Pairwise fun a b => leR a b = true) : sortedD (L.map rowD) = M.map rowD := by
  rw [sortedD_map, sort_eq p asc]
theorem alike_rowD (a b : List Nat) : PySem.W.alike (rowD a) (rowD b) = true := by
  show PySem.W.alike (.tuple (natsD a)) (.tuple (natsD b)) = true
  rw [natsD_ints, natsD_ints]
  have := PySem.W.alike_ints (a.map fun i : Nat => (i : Int)) (b.map fun i : Nat => (i : Int))
  simpa [PySem.W.alike] using this
theorem depth_rowD (a : List Nat) : (rowD a).depth ≤ 60 := by
  have := PySem.W.depth_ints (a.map fun i : Nat => (i : Int))
  unfold rowD
  rw [natsD_ints]
  simp [PyData.depth]
  simp at this
  omega
theorem sortOk_rows {L : List (List Nat)} (h : ∀ l ∈ L, l ≠ []) (hl : L.length ≤ 10000000) : SortOk (L.map rowD) := by
  refine ⟨fun d hd e he => ?_, .inl fun d hd => ?_, by simpa using hl, fun d hd => ?_⟩
  · obtain ⟨a, _, rfl⟩ := List.mem_map.mp hd
    obtain ⟨b, _, rfl⟩ := List.mem_map.mp he
    exact alike_rowD a b
  · obtain ⟨a, ha, rfl⟩ := List.mem_map.mp hd
    cases a with
    | nil => exact absurd rfl (h _ ha)
    | cons x r => exact ⟨_, _, rfl⟩
  · obtain ⟨a, _, rfl⟩ := List.mem_map.mp hd
    exact depth_rowD a
end G

set_option Elab.async false
set_option linter.all false
set_option maxRecDepth 100000
set_option maxHeartbeats 1000000
namespace G
open PySem PySem.Spec PyProof.Rows L2 DC
def metD (ms : List Nat) : List (Key × PyData) := ms.map fun i : Nat => (Sum.inl (i : Int), .bool true)
theorem has_met (ms : List Nat) (k : Nat) : hasK (keysP (metD ms)) (Sum.inl (k : Int)) = decide (k ∈ ms) := by
  unfold hasK keysP metD
  rw [List.map_map, List.any_map, Bool.eq_iff_iff]
  simp only [List.any_eq_true, decide_eq_true_eq, Function.comp]
  constructor
  · rintro ⟨x, hx, e⟩
    have : x = k := by
      have := Sum.inl.inj e
      omega
    exact this ▸ hx
  · exact fun z => ⟨k, z, rfl⟩
theorem metD_snoc (ms : List Nat) (k : Nat) : metD (ms ++ [k]) = metD ms ++ [(Sum.inl (k : Int), .bool true)] := by simp [metD]
@[simp] theorem metD_len (ms : List Nat) : (metD ms).length = ms.length := by simp [metD]
def freshL (l fs xs : List Nat) : List Nat := xs.filter fun u => decide (u ∈ l ∧ u ∉ fs)
theorem mem_freshL {l fs xs : List Nat} {u : Nat} : u ∈ freshL l fs xs ↔ u ∈ xs ∧ u ∈ l ∧ u ∉ fs := by
  unfold freshL
  rw [List.mem_filter, decide_eq_true_eq]
theorem freshL_off {l fs xs : List Nat} {u : Nat} (h : ¬ (u ∈ l ∧ u ∉ fs)) : freshL l fs (xs ++ [u]) = freshL l fs xs := by
  unfold freshL
  rw [List.filter_append, List.filter_cons, if_neg (by rw [decide_eq_true_eq]; exact h)]
  simp
theorem freshL_on {l fs xs : List Nat} {u : Nat} (h : u ∈ l ∧ u ∉ fs) : freshL l fs (xs ++ [u]) = freshL l fs xs ++ [u] := by
  unfold freshL
  rw [List.filter_append, List.filter_cons, if_pos (by rw [decide_eq_true_eq]; exact h)]
  simp
/-- the row of the piece of s -/
noncomputable def rowP (ts : List (Nat × Nat)) (lot s : Nat) : List Nat := bits (comp ts lot s)
theorem rowP_cons {ts : List (Nat × Nat)} {lot s : Nat} (hl : lot < 65536) (h : s ∈ heads ts lot) : ∃ r, rowP ts lot s = s :: r := by
  have hh := (mem_heads hl).mp h
  have hc : comp ts lot s < 65536 := comp_lt (n := 16) hl
  have hm : s ∈ rowP ts lot s := (mem_bits hc).mpr ((bit_comp hl hh.1).mpr .here)
  have asc : (rowP ts lot s).Pairwise (· < ·) := asc_bits _
  cases e : rowP ts lot s with
  | nil => rw [e] at hm; cases hm
  | cons a r =>
    rw [e] at hm asc
    have ha : a ∈ rowP ts lot s := by rw [e]; exact List.mem_cons_self
    have hr := (bit_comp hl hh.1).mp ((mem_bits hc).mp ha)
    rcases List.mem_cons.mp hm with rfl | z
    · exact ⟨r, rfl⟩
    · have := (List.pairwise_cons.mp asc).1 s z
      exact absurd (hr.symm hh.1) (hh.2 a this (hr.inn hh.1))
theorem asc_rows {ts : List (Nat × Nat)} {lot : Nat} (hl : lot < 65536) : ((heads ts lot).map (rowP ts lot)).Pairwise fun a b => leR a b = true := by
  refine List.pairwise_map.mpr (List.Pairwise.imp_of_mem (fun {a b} ha hb z => ?_) (asc_heads ts lot))
  obtain ⟨r, e⟩ := rowP_cons hl ha
  obtain ⟨q, f⟩ := rowP_cons hl hb
  rw [e, f]
  unfold leR
  refine decide_eq_true (List.le_of_lt (List.cons_lt_cons_iff.mpr (.inl z)))
theorem near_at {n : Nat} {ts : List (Nat × Nat)} {v : Nat} (hv : v < n) : atI (nearD n ts) ((v : Nat) : Int) = some (.list (natsD (nbl ts (List.range n) v))) := by
  unfold nearD
  rw [atI_n, List.getElem?_map, List.getElem?_range hv]
  rfl
theorem wAny_seq {i : Nat} {ρ : List Sl} {e : PyData} {ds : List PyData} {K : List PyData → List Sl → Prop} (h : ρ[i]? = some (.fz e)) (he : e = .list ds ∨ e = .tuple ds) (k : K ds ρ) : wAny (wVar i) ρ K := by
  rcases he with rfl | rfl
  · simp [h, k]
  · simp [h, k]
theorem vc__law_pieces : vS__law_pieces := by
  intro as Q h
  unfold S__law_pieces at h
  split at h
  · rename_i e
    obtain ⟨n, ts, l, rfl, he, ok, asc, hln, h⟩ := h
    have n10 := ok.n10
    generalize hlot : orAll 0 l = lot at h
    have lotn : lot < 2 ^ n := by rw [← hlot]; exact orAll_lt hln
    have hl := pow_16 lotn n10
    have bl : bits lot = l := by rw [← hlot]; exact bits_orAll asc fun x hx => by have := hln x hx; omega
    have ml : ∀ x, x ∈ l ↔ lot.testBit x = true := fun x => by rw [← bl]; exact mem_bits hl
    have ndl : l.Nodup := asc.imp fun z => by omega
    have rdin : ∀ (u : Nat) (R : Rs → Prop), R (.fz (.bool (decide (u ∈ l)))) → rdIn false (.int (u : Int)) e R := fun u R hR => by
      refine ⟨(u : Int), l.map fun i : Nat => (i : Int), rfl, ?_, ?_⟩
      · rcases he with rfl | rfl
        · exact .inl (by rw [natsD_ints])
        · exact .inr (by rw [natsD_ints])
      · have : decide ((u : Int) ∈ l.map fun i : Nat => (i : Int)) = decide (u ∈ l) := by rw [decide_eq_decide]; exact mem_ints
        rw [this]
        simpa using hR
    simp [w__law_pieces]
    unfold lp3__law_pieces
    refine wAny_seq (i := 1) rfl he ?_
    refine forD_inv (fun i ρ => ∃ (ms : List Nat) (x1 x2 x3 x4 x5 : Sl), ms.Nodup ∧ (∀ v, v ∈ ms ↔ (lot.testBit v = true ∧ ∃ r ∈ l.take i, Reach ts lot r v)) ∧
      ρ = [.fz (.list (nearD n ts)), .fz e, .od (metD ms), .ow (((l.take i).filter fun s => decide (s ∈ heads ts lot)).map fun s => rowD (rowP ts lot s)), x1, x2, x3, x4, x5]) ⟨[], .un, .un, .un, .un, .un, by simp, by simp, rfl⟩ ?_ ?_
    · rintro i d ρ hd ⟨ms, x1, x2, x3, x4, x5, ndm, hms, rfl⟩ N hN
      rw [natsD_get] at hd
      cases hri : l[i]? with
      | none => rw [hri] at hd; cases hd
      | some s =>
        rw [hri] at hd
        cases hd
        have hil := (List.getElem?_eq_some_iff.mp hri).1
        have hsl : s ∈ l := List.mem_of_getElem? hri
        have hs := (ml s).mp hsl
        have hsn := hln s hsl
        have ht : l.take (i + 1) = l.take i ++ [s] := by rw [List.take_add_one, hri]; rfl
        have l16 : l.length ≤ 16 := by rw [← bl]; exact bits_len lot
        have mlt : ∀ v ∈ ms, v < n := fun v hv => bit_lt lotn ((hms v).mp hv).1
        -- before s: the less ones
        have before : ∀ r, r ∈ l.take i ↔ r ∈ l ∧ r < s := fun r => by
          constructor
          · intro hr
            refine ⟨List.mem_of_mem_take hr, ?_⟩
            have p := asc.sublist (List.take_sublist (i + 1) l)
            rw [ht] at p
            exact (List.pairwise_append.mp p).2.2 r hr s (by simp)
          · rintro ⟨hr, hlt⟩
            obtain ⟨j, hj, e⟩ := List.getElem_of_mem hr
            have hji : j < i := by
              rcases Nat.lt_or_ge j i with z | z
              · exact z
              · exfalso
                have es : l[i] = s := by rw [List.getElem?_eq_getElem hil] at hri; exact Option.some.inj hri
                rcases Nat.lt_or_eq_of_le z with z | z
                · have := (List.pairwise_iff_getElem.mp asc) i j hil hj z
                  omega
                · subst z
                  omega
            exact List.mem_take_iff_getElem.mpr ⟨j, by omega, e⟩
        by_cases hm : s ∈ ms
        · have nh : s ∉ heads ts lot := fun z => by
            obtain ⟨_, r, hr, hre⟩ := (hms s).mp hm
            exact ((mem_heads hl).mp z).2 r ((before r).mp hr).2 ((ml r).mp ((before r).mp hr).1) hre
          simp [has_met, hm]
          refine hN _ ⟨ms, .fz (.int (s : Int)), x2, x3, x4, x5, ndm, fun v => ?_, ?_⟩
          · rw [hms, ht]
            constructor
            · rintro ⟨h1, r, hr, hre⟩
              exact ⟨h1, r, List.mem_append_left _ hr, hre⟩
            · rintro ⟨h1, r, hr, hre⟩
              rcases List.mem_append.mp hr with z | z
              · exact ⟨h1, r, z, hre⟩
              · rw [List.mem_singleton.mp z] at hre
                obtain ⟨_, q, hq, hqs⟩ := (hms s).mp hm
                exact ⟨h1, q, hq, hqs.trans hre⟩
          · rw [ht, List.filter_append]
            simp [nh]
        · have hh : s ∈ heads ts lot := (mem_heads hl).mpr ⟨hs, fun r hr hb z => hm ((hms s).mpr ⟨hs, r, (before r).mpr ⟨(ml r).mpr hb, hr⟩, z⟩)⟩
          have ms16 : ms.length ≤ 16 := by
            have := len_le_of_sub (r := List.range 16) ndm fun v hv => List.mem_range.mpr (by have := mlt v hv; omega)
            simpa using this
          have dis : ∀ v, v ∈ ms → ¬ Reach ts lot s v := fun v hv z => by
            obtain ⟨h1, r, hr, hre⟩ := (hms v).mp hv
            exact hm ((hms s).mpr ⟨hs, r, hr, hre.trans (z.symm hs)⟩)
          have foundl : (((l.take i).filter fun s => decide (s ∈ heads ts lot)).map fun s => rowD (rowP ts lot s)).length ≤ 16 := by
            rw [List.length_map]
            refine Nat.le_trans (List.length_filter_le _ _) ?_
            rw [List.length_take]
            omega
          generalize hfound : (((l.take i).filter fun s => decide (s ∈ heads ts lot)).map fun s => rowD (rowP ts lot s)) = found at foundl ⊢
          simp [has_met, hm]
          have f0 : Find ts lot s (orAll 0 [s]) [s] [s] := ⟨fun i => by rw [bit_orAll], by simp, by simpa using hs, by simp, by simpa using Reach.here, by simp, by simp, by simp⟩
          refine ⟨by omega, ?_⟩
          unfold lp2__law_pieces
          refine ⟨fun k ρ => ∃ (fs P W : List Nat) (x1 x2 : Sl), k = 2 * (16 - fs.length) + W.length ∧ Find ts lot s (orAll 0 fs) fs W ∧ (P ++ W).Perm fs ∧
            ρ = [.fz (.list (nearD n ts)), .fz e, .od (metD (ms ++ fs)), .ow found, .fz (.int (s : Int)), .ow (natsD P), .ow (natsD W), x1, x2], ⟨_, [s], [], [s], x4, x5, rfl, f0, by simp, by rw [metD_snoc]; rfl⟩, ?_⟩
          rintro k ρ ⟨fs, P, W, x1, x2, rfl, fd, hP, rfl⟩
          have fewm := fd.few lotn n10
          have hPl := hP.length_eq
          rw [List.length_append] at hPl
          simp
          by_cases hW : W = []
          · subst hW
            simp
            rw [List.append_nil] at hP
            have hpr : (rowP ts lot s).Perm P := by
              refine List.Perm.trans ((List.perm_ext_iff_of_nodup (nodup_bits _) fd.nd).mpr fun v => ?_) hP.symm
              rw [mem_bits (comp_lt (n := 16) hl), bit_comp hl hs, ← fd.bit]
              exact (fd.piece v).symm
            rw [sortedD_nats hpr (asc_bits _)]
            refine ⟨?_, by omega, hN _ ⟨ms ++ fs, .fz (.int (s : Int)), .fz (.list (natsD P)), .ow [], x1, x2, ?_, fun v => ?_, ?_⟩⟩
            · rw [natsD_ints]
              exact sortOk_ints _ (by rw [List.length_map]; simp at hPl; omega)
            · rw [List.nodup_append]
              exact ⟨ndm, fd.nd, fun a ha b hb e => dis a ha (fd.re a (e ▸ hb))⟩
            · rw [List.mem_append, hms, ht]
              constructor
              · rintro (⟨h1, r, hr, hre⟩ | z)
                · exact ⟨h1, r, List.mem_append_left _ hr, hre⟩
                · exact ⟨fd.lt v z, s, by simp, fd.re v z⟩
              · rintro ⟨h1, r, hr, hre⟩
                rcases List.mem_append.mp hr with z | z
                · exact .inl ⟨h1, r, z, hre⟩
                · rw [List.mem_singleton.mp z] at hre
                  exact .inr ((fd.bit v).mp ((fd.piece v).mpr hre))
            · rw [← hfound, ht, List.filter_append]
              simp [hh, rowD]
          · simp [hW]
            obtain ⟨W0, v, rfl⟩ : ∃ W0 v, W = W0 ++ [v] := ⟨W.dropLast, W.getLast hW, (List.dropLast_concat_getLast hW).symm⟩
            have hvl : lot.testBit v = true := fd.lt v (fd.sub v (by simp))
            have hv : v < n := bit_lt lotn hvl
            have hvs := fd.re v (fd.sub v (by simp))
            have e1 : (natsD (W0 ++ [v]))[(W0 ++ [v]).length - 1]? = some (.int (v : Int)) := by
              rw [natsD_get]
              simp
            have e2 : natsD W0 ++ (natsD [v]).dropLast = natsD W0 := by simp [natsD]
            rw [e1]
            simp only []
            simp [near_at hv]
            refine ⟨by omega, ?_⟩
            simp [lp1__law_pieces, near_at hv]
            generalize hxs : nbl ts (List.range n) v = xs
            have hx : ∀ u, u ∈ xs ↔ tied ts v u = true := fun u => by
              rw [← hxs]
              unfold nbl
              rw [List.mem_filter, List.mem_range]
              exact ⟨fun z => z.2, fun z => ⟨(ok.tl z).2.1, z⟩⟩
            have ndx : xs.Nodup := hxs ▸ (asc_nbl ts n v).imp fun z => by omega
            have nx : ∀ j, (freshL l fs (xs.take j)).length ≤ 16 := fun j => by
              have := len_le_of_sub (l := freshL l fs (xs.take j)) (r := List.range 16) ((ndx.sublist (List.take_sublist _ _)).sublist List.filter_sublist) fun u hu => by
                have := (ok.tl ((hx u).mp (List.mem_of_mem_take (mem_freshL.mp hu).1))).2.1
                exact List.mem_range.mpr (by omega)
              simpa using this
            refine forD_inv (fun j ρ => ∃ x2, ρ = [.fz (.list (nearD n ts)), .fz e, .od (metD (ms ++ fs ++ freshL l fs (xs.take j))), .ow found, .fz (.int (s : Int)), .ow (natsD P ++ [.int (v : Int)]), .ow (natsD (W0 ++ freshL l fs (xs.take j))), .fz (.int (v : Int)), x2]) ⟨x2, by simp [e2, freshL]⟩ ?_ ?_
            · rintro j d ρ hd ⟨y, rfl⟩ N2 hN2
              rw [natsD_get] at hd
              cases hxj : xs[j]? with
              | none => rw [hxj] at hd; cases hd
              | some u =>
                rw [hxj] at hd
                cases hd
                have hut := (hx u).mp (List.mem_of_getElem? hxj)
                have hun : u < n := (ok.tl hut).2.1
                have ht2 : xs.take (j + 1) = xs.take j ++ [u] := by rw [List.take_add_one, hxj]; rfl
                have hjl := (List.getElem?_eq_some_iff.mp hxj).1
                have hnew : u ∉ xs.take j := fun z => by
                  have nd2 := ndx.sublist (List.take_sublist (j + 1) xs)
                  rw [ht2] at nd2
                  exact (List.nodup_append.mp nd2).2.2 u z u (by simp) rfl
                have := nx j
                simp only [gN, wIfS, wAnd, wTest, wOp, wVar, List.getElem?_set, List.length_cons, List.length_nil, Nat.reduceAdd, List.set_cons_succ, List.set_cons_zero, List.getElem?_cons_succ, List.getElem?_cons_zero, Rs.dat]
                refine rdin u _ ?_
                by_cases hul : u ∈ l
                · have hlu := (ml u).mp hul
                  have hums : u ∉ ms := fun z => dis u z (hvs.go hut hlu)
                  have hmem : u ∈ ms ++ fs ++ freshL l fs (xs.take j) ↔ u ∈ fs := by
                    rw [List.mem_append, List.mem_append, mem_freshL]
                    exact ⟨fun z => z.elim (fun q => q.resolve_left hums) fun q => absurd q.1 hnew, fun z => .inl (.inr z)⟩
                  have hm2 : hasK (keysP (metD (ms ++ fs ++ freshL l fs (xs.take j)))) (Sum.inl (u : Int)) = decide (u ∈ fs) := by
                    rw [has_met, decide_eq_decide]
                    exact hmem
                  by_cases hu : u ∈ fs
                  · have hf : freshL l fs (xs.take (j + 1)) = freshL l fs (xs.take j) := by rw [ht2, freshL_off fun z => z.2 hu]
                    have hN3 := hN2 _ ⟨.fz (.int (u : Int)), rfl⟩
                    rw [hf] at hN3
                    rw [List.append_assoc] at hm2
                    simp [hul, hm2, hu]
                    simpa using hN3
                  · have hf : freshL l fs (xs.take (j + 1)) = freshL l fs (xs.take j) ++ [u] := by rw [ht2, freshL_on ⟨hul, hu⟩]
                    have hN3 := hN2 _ ⟨.fz (.int (u : Int)), rfl⟩
                    rw [hf, ← List.append_assoc, metD_snoc] at hN3
                    rw [List.append_assoc] at hm2
                    simp [hul, hm2, hu]
                    simp at hN3
                    simp only [List.length_append, List.length_singleton] at hPl
                    refine ⟨by omega, by omega, ?_⟩
                    simpa [natsD] using hN3
                · have hf : freshL l fs (xs.take (j + 1)) = freshL l fs (xs.take j) := by rw [ht2, freshL_off fun z => hul z.1]
                  have hN3 := hN2 _ ⟨.fz (.int (u : Int)), rfl⟩
                  rw [hf] at hN3
                  simp [hul]
                  simpa using hN3
            · rintro ρ ⟨y, rfl⟩
              rw [natsD_len, List.take_length]
              generalize hzs : freshL l fs xs = zs
              have hz : ∀ u, u ∈ zs ↔ (tied ts v u = true ∧ lot.testBit u = true ∧ u ∉ fs) := fun u => by
                rw [← hzs, mem_freshL, hx, ml]
              have ndz : zs.Nodup := hzs ▸ ndx.sublist List.filter_sublist
              have fd' := fd.next hz ndz (orAll 0 (fs ++ zs)) fun i => by rw [bit_orAll, List.mem_append]
              have few' := fd'.few lotn n10
              rw [List.length_append] at few'
              refine ⟨2 * (16 - (fs ++ zs).length) + (W0 ++ zs).length, ?_, fs ++ zs, P ++ [v], W0 ++ zs, rfl, fd', ?_, .fz (.int (v : Int)), y, by simp [natsD]⟩
              · rw [List.length_append, List.length_append]
                simp only [List.length_append, List.length_singleton] at hPl
                omega
              · have p1 : (P ++ [v] ++ W0).Perm fs := by
                  refine List.Perm.trans ?_ hP
                  rw [List.append_assoc]
                  exact List.Perm.append_left P List.perm_append_comm
                rw [← List.append_assoc]
                exact p1.append_right zs
    · rintro ρ ⟨ms, x1, x2, x3, x4, x5, ndm, hms, rfl⟩
      have e1 : (l.filter fun s => decide (s ∈ heads ts lot)) = heads ts lot := by
        refine asc_nats (asc.sublist List.filter_sublist) (asc_heads ts lot) fun x => ?_
        rw [List.mem_filter, decide_eq_true_eq]
        exact ⟨fun z => z.2, fun z => ⟨(ml x).mpr ((mem_heads hl).mp z).1, z⟩⟩
      rw [natsD_len, List.take_length, e1]
      have e2 : (heads ts lot).map (fun s => rowD (rowP ts lot s)) = ((heads ts lot).map (rowP ts lot)).map rowD := by rw [List.map_map]; rfl
      rw [e2]
      simp only [wRet, wCB, wCons, wNil, wVar, List.getElem?_cons_succ, List.getElem?_cons_zero, Rs.arg, datAll, rdSorted]
      refine ⟨sortOk_rows (fun r hr => ?_) (by rw [List.length_map]; have := heads_len ts lot; omega), ?_⟩
      · obtain ⟨s, hs, rfl⟩ := List.mem_map.mp hr
        obtain ⟨q, e⟩ := rowP_cons hl hs
        rw [e]
        simp
      · rw [sortedD_rows (List.Perm.refl _) (asc_rows hl)]
        have e3 : (pcs ts lot).map (fun m => PyData.tuple (natsD (bits m))) = ((heads ts lot).map (rowP ts lot)).map rowD := by
          unfold pcs
          rw [List.map_map, List.map_map]
          rfl
        rw [← e3]
        exact h
  · exact h.elim
end G

set_option Elab.async false
set_option linter.all false
set_option maxRecDepth 100000
set_option maxHeartbeats 1000000
/-! how far things are apart: plain facts -/
namespace G
theorem Wk.cons {ts : List (Nat × Nat)} {a b c k : Nat} (h : tied ts a b = true) (g : Wk ts b k c) : Wk ts a (k + 1) c := by
  induction g with
  | here => exact .go .here h
  | go _ t ih => exact .go ih t
theorem Wk.symm {ts : List (Nat × Nat)} {a b k : Nat} (h : Wk ts a k b) : Wk ts b k a := by
  induction h with
  | here => exact .here
  | go _ t ih => exact ih.cons (by rw [tied_symm]; exact t)
theorem Wk.trans {ts : List (Nat × Nat)} {a b c j k : Nat} (h : Wk ts a j b) (g : Wk ts b k c) : Wk ts a (j + k) c := by
  induction g with
  | here => exact h
  | go _ t ih => exact .go ih t
theorem isDist_uniq {ts : List (Nat × Nat)} {a b j k : Nat} (h : IsDist ts a b j) (g : IsDist ts a b k) : j = k := by
  rcases Nat.lt_trichotomy j k with z | z | z
  · exact absurd h.1 (g.2 j z)
  · exact z
  · exact absurd g.1 (h.2 k z)
theorem isDist_of {ts : List (Nat × Nat)} {a b k : Nat} (h : Wk ts a k b) : ∃ j, j ≤ k ∧ IsDist ts a b j := by
  obtain ⟨m, h1, h2, h3⟩ := exists_least (p := fun j => Wk ts a j b) h
  exact ⟨m, h3, h1, h2⟩
theorem isDist_symm {ts : List (Nat × Nat)} {a b k : Nat} (h : IsDist ts a b k) : IsDist ts b a k := ⟨h.1.symm, fun j hj z => h.2 j hj z.symm⟩
theorem isDist_zero {ts : List (Nat × Nat)} {a b : Nat} : IsDist ts a b 0 ↔ a = b := by
  constructor
  · intro h
    cases h.1
    rfl
  · rintro rfl
    exact ⟨.here, fun j hj => by omega⟩
theorem dist_some {ts : List (Nat × Nat)} {a b k : Nat} : dist ts a b = some k ↔ IsDist ts a b k := by
  unfold dist
  constructor
  · intro h
    split at h
    · rename_i e
      have := Classical.choose_spec e
      cases h
      exact this
    · cases h
  · intro h
    rw [dif_pos ⟨k, h⟩]
    congr 1
    exact isDist_uniq (Classical.choose_spec (⟨k, h⟩ : ∃ k, IsDist ts a b k)) h
theorem dist_none {ts : List (Nat × Nat)} {a b : Nat} : dist ts a b = none ↔ ∀ k, ¬ IsDist ts a b k := by
  constructor
  · intro h k z
    rw [dist_some.mpr z] at h
    cases h
  · intro h
    cases e : dist ts a b with
    | none => rfl
    | some k => exact absurd (dist_some.mp e) (h k)
/-- the last tie of a shortest way -/
theorem isDist_step {ts : List (Nat × Nat)} {a v k : Nat} (h : IsDist ts a v (k + 1)) : ∃ u, IsDist ts a u k ∧ tied ts u v = true := by
  cases h.1 with
  | go w t =>
    rename_i u
    refine ⟨u, ⟨w, fun j hj z => h.2 (j + 1) (by omega) (.go z t)⟩, t⟩
theorem isDist_next {ts : List (Nat × Nat)} {a u v k : Nat} (h : IsDist ts a u k) (t : tied ts u v = true) (n : ∀ j, j ≤ k → ¬ IsDist ts a v j) : IsDist ts a v (k + 1) := by
  refine ⟨.go h.1 t, fun j hj z => ?_⟩
  obtain ⟨i, hi, d⟩ := isDist_of z
  exact n i (by omega) d
/-- nothing is farther than an empty layer -/
theorem isDist_gap {ts : List (Nat × Nat)} {a k : Nat} (h : ∀ v, ¬ IsDist ts a v k) : ∀ {j v : Nat}, k ≤ j → ¬ IsDist ts a v j
  | 0, v, hj, z => by
    have : k = 0 := by omega
    subst this
    exact h v z
  | j + 1, v, hj, z => by
    by_cases e : k = j + 1
    · subst e
      exact h v z
    · obtain ⟨u, d, _⟩ := isDist_step z
      exact isDist_gap h (show k ≤ j by omega) d
theorem Ok.wk {n : Nat} {ts : List (Nat × Nat)} (ok : Ok n ts) {a b k : Nat} (ha : a < n) (h : Wk ts a k b) : b < n := by
  cases h with
  | here => exact ha
  | go _ t => exact (ok.tl t).2.1
/-- a shortest way has each thing once -/
theorem isDist_lt {n : Nat} {ts : List (Nat × Nat)} (ok : Ok n ts) {a b k : Nat} (ha : a < n) (h : IsDist ts a b k) : k < n := by
  have layer : ∀ j, j ≤ k → ∃ v, IsDist ts a v j := by
    intro j hj
    apply Classical.byContradiction
    intro z
    exact isDist_gap (fun v d => z ⟨v, d⟩) hj h
  -- a thing of each layer
  let f : Nat → Nat := fun j => if hj : j ≤ k then Classical.choose (layer j hj) else 0
  have hf : ∀ j, j ≤ k → IsDist ts a (f j) j := fun j hj => by
    show IsDist ts a (if hj : j ≤ k then Classical.choose (layer j hj) else 0) j
    rw [dif_pos hj]
    exact Classical.choose_spec (layer j hj)
  have := len_le_of_sub (l := (List.range (k + 1)).map f) (r := List.range n) (by
      refine List.pairwise_map.mpr (List.Pairwise.imp_of_mem (fun {i j} hi hj z e => ?_) List.pairwise_lt_range)
      have hi := List.mem_range.mp hi
      have hj := List.mem_range.mp hj
      have d1 := hf i (by omega)
      have d2 := hf j (by omega)
      rw [e] at d1
      have := isDist_uniq d1 d2
      omega) fun x hx => by
    obtain ⟨j, hj, rfl⟩ := List.mem_map.mp hx
    have := List.mem_range.mp hj
    exact List.mem_range.mpr (ok.wk ha (hf j (by omega)).1)
  simp at this
  omega
theorem reach_wk {ts : List (Nat × Nat)} {lot a b : Nat} (h : Reach ts lot a b) : ∃ k, Wk ts a k b := by
  induction h with
  | here => exact ⟨0, .here⟩
  | go _ t _ ih =>
    obtain ⟨k, w⟩ := ih
    exact ⟨k + 1, .go w t⟩
theorem wk_reach {n : Nat} {ts : List (Nat × Nat)} (ok : Ok n ts) {a b k : Nat} (h : Wk ts a k b) : Reach ts (full n) a b := by
  induction h with
  | here => exact .here
  | go _ t ih => exact .go ih t (by rw [testBit_full]; exact decide_eq_true (ok.tl t).2.1)
/-- what is tied to some of a lot -/
def orNb (ts : List (Nat × Nat)) (xs : List Nat) : Nat := xs.foldl (fun m x => m ||| nb ts x) 0
theorem orNb_snoc (ts : List (Nat × Nat)) (xs : List Nat) (x : Nat) : orNb ts (xs ++ [x]) = orNb ts xs ||| nb ts x := by simp [orNb]
theorem bit_orNb {n : Nat} {ts : List (Nat × Nat)} (ok : Ok n ts) (i : Nat) (xs : List Nat) : (orNb ts xs).testBit i = true ↔ ∃ x ∈ xs, tied ts x i = true := by
  have : ∀ (xs : List Nat) (m : Nat), (xs.foldl (fun m x => m ||| nb ts x) m).testBit i = true ↔ (m.testBit i = true ∨ ∃ x ∈ xs, tied ts x i = true) := by
    intro xs
    induction xs with
    | nil => intro m; simp
    | cons x r ih =>
      intro m
      rw [List.foldl_cons, ih, Nat.testBit_or, testBit_nb ok.ne, Bool.or_eq_true]
      simp only [List.mem_cons]
      constructor
      · rintro ((h | h) | ⟨y, hy, h⟩)
        · exact .inl h
        · exact .inr ⟨x, .inl rfl, h⟩
        · exact .inr ⟨y, .inr hy, h⟩
      · rintro (h | ⟨y, rfl | hy, h⟩)
        · exact .inl (.inl h)
        · exact .inl (.inr h)
        · exact .inr ⟨y, hy, h⟩
  have := this xs 0
  simpa [orNb] using this
end G

set_option Elab.async false
set_option linter.all false
set_option maxRecDepth 100000
set_option maxHeartbeats 1000000
namespace G
open PySem PySem.Spec PyProof.Rows L2 DC
theorem shr_cast (a b : Nat) : (a : Int) / 2 ^ b = ((a / 2 ^ b : Nat) : Int) := by simp
theorem and_one (a : Nat) : Builtin.bitAnd (a : Int) 1 = ((a % 2 : Nat) : Int) := by
  have := bitAnd_nat a 1
  simpa [Nat.and_one_is_mod] using this
theorem shl_cast (a : Nat) : (2 : Int) ^ a = ((2 ^ a : Nat) : Int) := by simp
theorem vc_distance (C_Ties : Addr) : vS_distance C_Ties := by
  intro as Q h
  unfold S_distance at h
  split at h
  · obtain ⟨n, ts, a, b, rfl, ok, rfl, rfl, ha, hb, h⟩ := h
    have n10 := ok.n10
    simp [w_distance, CPow]
    refine ⟨n, ts, rfl, ok, ?_⟩
    simp
    refine ⟨by unfold CPow; omega, ?_⟩
    rw [shl_cast]
    generalize hD : (DEnds.mk (wRet (wIf (wTest (wOp (rdEq true) (wVar 4) (wC (.int 0)))) (wVar 5) (wC .none)) ⟨fun _ => Q (.fz .none), fun r _ => Q r, fun _ => False, fun _ => False⟩) (fun r _ => Q r) (fun _ => False) (fun _ => False)) = D
    have hR : ∀ (m Hm : Nat) (x6 x7 x8 : Sl), (Hm ≠ 0 → IsDist ts a b m) → (Hm = 0 → ∀ j, ¬ IsDist ts a b j) → D.nx [.fz (webD n ts), .fz (.int (a : Int)), .fz (.int (b : Int)), .ob C_Ties (tiesF n ts), .fz (.int (Hm : Int)), .fz (.int (m : Int)), x6, x7, x8] := fun m Hm x6 x7 x8 h1 h2 => by
      rw [← hD]
      simp
      by_cases z : Hm = 0
      · rw [if_pos (by omega)]
        have : dist ts a b = none := dist_none.mpr (h2 z)
        simpa [distD, this] using h
      · rw [if_neg (by omega)]
        have : dist ts a b = some m := dist_some.mpr (h1 z)
        simpa [distD, this] using h
    unfold lp2_distance
    refine ⟨fun k ρ => ∃ (m Hm F : Nat) (x7 x8 : Sl), k = 2 * (16 - (bits F).length) + (if Hm = 0 then 0 else 1) ∧ (∀ v, Hm.testBit v = true ↔ IsDist ts a v m) ∧ (∀ v, F.testBit v = true ↔ ∃ j, j ≤ m ∧ IsDist ts a v j) ∧ (∀ j, j < m → ¬ IsDist ts a b j) ∧
      ρ = [.fz (webD n ts), .fz (.int (a : Int)), .fz (.int (b : Int)), .ob C_Ties (tiesF n ts), .fz (.int (Hm : Int)), .fz (.int (m : Int)), .fz (.int (F : Int)), x7, x8], ?_, ?_⟩
    · refine ⟨_, 0, 2 ^ a, 2 ^ a, .un, .un, rfl, fun v => ?_, fun v => ?_, fun j hj => by omega, rfl⟩
      · rw [testBit_pow, decide_eq_true_eq, isDist_zero]
      · rw [testBit_pow, decide_eq_true_eq]
        constructor
        · rintro rfl
          exact ⟨0, Nat.le_refl _, isDist_zero.mpr rfl⟩
        · rintro ⟨j, hj, d⟩
          have : j = 0 := by omega
          subst this
          exact isDist_zero.mp d
    · clear hD
      rintro k ρ ⟨m, Hm, F, x7, x8, rfl, hH, hF, hb2, rfl⟩
      have Hn : Hm < 2 ^ n := lt_of_bits fun v hv => ok.wk ha ((hH v).mp hv).1
      have Fn : F < 2 ^ n := lt_of_bits fun v hv => by obtain ⟨j, _, d⟩ := (hF v).mp hv; exact ok.wk ha d.1
      have H16 := pow_16 Hn n10
      have F16 := pow_16 Fn n10
      simp
      by_cases hz : Hm = 0
      · rw [if_pos (by omega)]
        refine hR m Hm _ x7 x8 (fun z => absurd hz z) fun _ j d => ?_
        have em : ∀ v, ¬ IsDist ts a v m := fun v d => by
          have := (hH v).mpr d
          rw [hz] at this
          simp at this
        rcases Nat.lt_or_ge j m with z | z
        · exact hb2 j z d
        · exact isDist_gap em z d
      · rw [if_neg (by omega), shr_cast, and_one]
        by_cases hbit : Hm.testBit b = true
        · have e1 : Hm / 2 ^ b % 2 = 1 := (shr_bit Hm b).mpr hbit
          rw [e1]
          simp
          exact hR m Hm _ x7 x8 (fun _ => (hH b).mp hbit) fun z => absurd z hz
        · have e1 : Hm / 2 ^ b % 2 = 0 := by
            have : ¬ Hm / 2 ^ b % 2 = 1 := fun z => hbit ((shr_bit Hm b).mp z)
            omega
          rw [e1]
          simp [lp1_distance, S_things_of]
          refine ⟨Hm, rfl, H16, ?_⟩
          generalize hxs : bits Hm = xs
          have hx : ∀ v, v ∈ xs ↔ IsDist ts a v m := fun v => by rw [← hxs, mem_bits H16, hH]
          refine forD_inv (fun i ρ => ∃ x8, ρ = [.fz (webD n ts), .fz (.int (a : Int)), .fz (.int (b : Int)), .ob C_Ties (tiesF n ts), .fz (.int (Hm : Int)), .fz (.int (m : Int)), .fz (.int (F : Int)), .fz (.int (orNb ts (xs.take i) : Nat)), x8]) ⟨x8, by simp [orNb]⟩ ?_ ?_
          · rintro i d ρ hd ⟨x8', rfl⟩ N hN
            rw [natsD_get] at hd
            cases hxi : xs[i]? with
            | none => rw [hxi] at hd; cases hd
            | some u =>
              rw [hxi] at hd
              cases hd
              have hu : u < n := ok.wk ha ((hx u).mp (List.mem_of_getElem? hxi)).1
              have ht : xs.take (i + 1) = xs.take i ++ [u] := by rw [List.take_add_one, hxi]; rfl
              have hN2 := hN _ ⟨.fz (.int (u : Int)), rfl⟩
              rw [ht, orNb_snoc] at hN2
              simp [to_at hu]
              exact hN2
          · rintro ρ ⟨x8', rfl⟩
            rw [natsD_len, List.take_length]
            simp
            generalize hH2 : DC.without (orNb ts xs) F = H2
            have hnext : ∀ v, H2.testBit v = true ↔ IsDist ts a v (m + 1) := fun v => by
              rw [← hH2, testBit_without]
              have e2 := bit_orNb ok v xs
              have e3 := hF v
              constructor
              · intro z
                simp at z
                obtain ⟨x, hxm, t⟩ := e2.mp z.1
                refine isDist_next ((hx x).mp hxm) t fun j hj d => ?_
                rw [e3.mpr ⟨j, hj, d⟩] at z
                simp at z
              · intro d
                obtain ⟨u, du, t⟩ := isDist_step d
                have z1 : (orNb ts xs).testBit v = true := e2.mpr ⟨u, (hx u).mpr du, t⟩
                have z2 : F.testBit v = false := by
                  cases e : F.testBit v with
                  | false => rfl
                  | true =>
                    obtain ⟨j, hj, d2⟩ := e3.mp e
                    have := isDist_uniq d d2
                    omega
                simp [z1, z2]
            have hF2 : ∀ v, (F ||| H2).testBit v = true ↔ ∃ j, j ≤ m + 1 ∧ IsDist ts a v j := fun v => by
              rw [Nat.testBit_or, Bool.or_eq_true, hF, hnext]
              constructor
              · rintro (⟨j, hj, d⟩ | d)
                · exact ⟨j, by omega, d⟩
                · exact ⟨m + 1, Nat.le_refl _, d⟩
              · rintro ⟨j, hj, d⟩
                by_cases e : j = m + 1
                · subst e; exact .inr d
                · exact .inl ⟨j, by omega, d⟩
            have H2n : H2 < 2 ^ n := lt_of_bits fun v hv => ok.wk ha ((hnext v).mp hv).1
            have F2n : F ||| H2 < 2 ^ n := Nat.or_lt_two_pow Fn H2n
            have sub : ∀ x ∈ bits F, x ∈ bits (F ||| H2) := fun x hx => by
              rw [mem_bits (pow_16 F2n n10), Nat.testBit_or, (mem_bits F16).mp hx]
              rfl
            have l1 := len_le_of_sub (nodup_bits F) sub
            have l16 := bits_len (F ||| H2)
            refine ⟨2 * (16 - (bits (F ||| H2)).length) + (if H2 = 0 then 0 else 1), ?_, m + 1, H2, F ||| H2, rfl, hnext, hF2, fun j hj d => ?_, ?_⟩
            · rw [if_neg hz]
              by_cases e : H2 = 0
              · rw [if_pos e]
                omega
              · rw [if_neg e]
                -- a new one
                obtain ⟨v, hv⟩ := bits_pos e (pow_16 H2n n10)
                have hv2 := (mem_bits (pow_16 H2n n10)).mp (List.mem_of_getElem? hv)
                have hvF : v ∉ bits F := fun z => by
                  obtain ⟨j, hj, d⟩ := (hF v).mp ((mem_bits F16).mp z)
                  have := isDist_uniq d ((hnext v).mp hv2)
                  omega
                have l2 := len_le_of_sub (l := v :: bits F) (r := bits (F ||| H2)) (List.nodup_cons.mpr ⟨hvF, nodup_bits F⟩) fun x hx => by
                  rcases List.mem_cons.mp hx with rfl | z
                  · rw [mem_bits (pow_16 F2n n10), Nat.testBit_or, hv2, Bool.or_true]
                  · exact sub x z
                simp only [List.length_cons] at l2
                omega
            · by_cases e : j = m
              · subst e
                exact hbit ((hH b).mpr d)
              · exact hb2 j (by omega) d
            · exact ⟨rfl, by omega, rfl⟩
  · exact h.elim

def optD : Option Nat → PyData
  | some k => .int (k : Int)
  | none => .none
theorem distD_opt (ts : List (Nat × Nat)) (a b : Nat) : distD ts a b = optD (dist ts a b) := rfl
def rowG (n : Nat) (g : Nat → Option Nat) : List PyData := (List.range n).map fun v => optD (g v)
@[simp] theorem rowG_len (n : Nat) (g : Nat → Option Nat) : (rowG n g).length = n := by simp [rowG]
theorem rowG_at {n v : Nat} (g : Nat → Option Nat) (h : v < n) : atI (rowG n g) ((v : Nat) : Int) = some (optD (g v)) := by
  unfold rowG
  rw [atI_n, List.getElem?_map, List.getElem?_range h]
  rfl
theorem rowG_set {n v : Nat} (g : Nat → Option Nat) (m : Nat) : (rowG n g).set v (.int (m : Int)) = rowG n fun u => if u = v then some m else g u := by
  apply List.ext_getElem?
  intro i
  by_cases hi : i < n
  · by_cases e : v = i
    · subst e
      rw [List.getElem?_set_self (by simpa using hi)]
      simp [rowG, List.getElem?_range hi, optD]
    · rw [List.getElem?_set_ne e]
      simp [rowG, List.getElem?_range hi, Ne.symm e]
  · rw [List.getElem?_eq_none (by simp; omega), List.getElem?_eq_none (by simp; omega)]
theorem ixN_nat {n k : Nat} (h : k < n) : ixN n (k : Int) = some k := by
  unfold ixN
  rw [if_pos (by omega), if_pos (by omega)]
  rfl
@[simp] theorem nearD_len (n : Nat) (ts : List (Nat × Nat)) : (nearD n ts).length = n := by simp [nearD]
theorem flat_nbl_len {n : Nat} {ts : List (Nat × Nat)} (zs : List Nat) : (zs.flatMap (nbl ts (List.range n))).length ≤ zs.length * n := by
  induction zs with
  | nil => simp
  | cons a r ih =>
    rw [List.flatMap_cons, List.length_append, List.length_cons, Nat.succ_mul]
    have : (nbl ts (List.range n) a).length ≤ n := Nat.le_trans (List.length_filter_le _ _) (by simp)
    omega
theorem nodup_len {zs : List Nat} {n : Nat} (nd : zs.Nodup) (h : ∀ z ∈ zs, z < n) : zs.length ≤ n := by
  have := len_le_of_sub (r := List.range n) nd fun x hx => List.mem_range.mpr (h x hx)
  simpa using this
theorem mem_nbl {n : Nat} {ts : List (Nat × Nat)} (ok : Ok n ts) {v u : Nat} : u ∈ nbl ts (List.range n) v ↔ tied ts v u = true := by
  unfold nbl
  rw [List.mem_filter, List.mem_range]
  exact ⟨fun z => z.2, fun z => ⟨(ok.tl z).2.1, z⟩⟩
theorem vc__law_far : vS__law_far := by
  intro as Q h
  unfold S__law_far at h
  split at h
  · obtain ⟨n, ts, rfl, ok, h⟩ := h
    have n10 := ok.n10
    simp [w__law_far, lp3__law_far]
    refine ⟨by omega, forD_inv (fun i ρ => ∃ x2 x3 x4 x5 x6 x7, ρ = [.fz (.list (nearD n ts)), .ow ((List.range i).map fun a => .list (rowG n (dist ts a))), x2, x3, x4, x5, x6, x7]) ⟨.un, .un, .un, .un, .un, .un, rfl⟩ ?_ ?_⟩
    · rintro s d ρ hd ⟨x2, x3, x4, x5, x6, x7, rfl⟩ N hN
      have hs : s < n := by
        have := (List.getElem?_eq_some_iff.mp hd).1
        simpa using this
      have hds : d = .int (s : Int) := by
        rw [List.getElem?_map, List.getElem?_range hs] at hd
        exact (Option.some.inj hd).symm
      subst hds
      simp
      refine ⟨by omega, ?_⟩
      have e0 : List.replicate n PyData.none = rowG n fun _ => none := by
        simp [rowG, optD, List.map_const']
      rw [e0]
      generalize hfo : ((List.range s).map fun a => PyData.list (rowG n (dist ts a))) = fo
      have fol : fo.length = s := by rw [← hfo]; simp
      simp [lp2__law_far]
      refine ⟨by omega, forD_inv (fun m ρ => ∃ (g : Nat → Option Nat) (hs : List Nat) (x4 x5 x6 x7 : Sl), (∀ v, v < n → ∀ j, g v = some j ↔ (IsDist ts s v j ∧ j < m)) ∧ hs.length ≤ 100 ∧ (∀ v, IsDist ts s v m → v ∈ hs) ∧ (∀ v ∈ hs, v < n ∧ ∃ j, j ≤ m ∧ IsDist ts s v j) ∧
        (x4 = .ow (natsD hs) ∨ x4 = .fz (.list (natsD hs))) ∧ ρ = [.fz (.list (nearD n ts)), .ow fo, .fz (.int (s : Int)), .ow (rowG n g), x4, x5, x6, x7]) ⟨fun _ => none, [s], _, x5, x6, x7, by simp, by simp, fun v hv => by rw [isDist_zero] at hv; simp [hv], fun v hv => by rw [List.mem_singleton.mp hv]; exact ⟨hs, 0, Nat.le_refl _, isDist_zero.mpr rfl⟩, .inr rfl, rfl⟩ ?_ ?_⟩
      · rintro m d ρ hd ⟨g, ls, x4, x5, x6, x7, hg, hll, hl1, hl2, hx4, rfl⟩ N2 hN2
        have hm : m < n := by
          have := (List.getElem?_eq_some_iff.mp hd).1
          simpa using this
        have hdm : d = .int (m : Int) := by
          rw [List.getElem?_map, List.getElem?_range hm] at hd
          exact (Option.some.inj hd).symm
        subst hdm
        have hN3 : ∀ (g : Nat → Option Nat) (ls : List Nat) (x7 : Sl), (∀ v, v < n → ∀ j, g v = some j ↔ (IsDist ts s v j ∧ j < m + 1)) → ls.length ≤ 100 → (∀ v, IsDist ts s v (m + 1) → v ∈ ls) → (∀ v ∈ ls, v < n ∧ ∃ j, j ≤ m + 1 ∧ IsDist ts s v j) →
            N2 [.fz (.list (nearD n ts)), .ow fo, .fz (.int (s : Int)), .ow (rowG n g), .fz (.list (natsD ls)), .fz (.int (m : Int)), .fz (.list (natsD ls)), x7] := fun g ls x7 h1 h2 h3 h4 => hN2 _ ⟨g, ls, _, _, _, _, h1, h2, h3, h4, .inr rfl, rfl⟩
        have key : ∀ D : DEnds, (∀ (g : Nat → Option Nat) (l2 : List Nat) (x7 : Sl), (∀ v, v < n → ∀ j, g v = some j ↔ (IsDist ts s v j ∧ j < m + 1)) → l2.length ≤ 100 → (∀ v, IsDist ts s v (m + 1) → v ∈ l2) → (∀ v ∈ l2, v < n ∧ ∃ j, j ≤ m + 1 ∧ IsDist ts s v j) →
            D.nx [.fz (.list (nearD n ts)), .ow fo, .fz (.int (s : Int)), .ow (rowG n g), .fz (.list (natsD ls)), .fz (.int (m : Int)), .ow (natsD l2), x7]) →
            lp1__law_far D [.fz (.list (nearD n ts)), .ow fo, .fz (.int (s : Int)), .ow (rowG n g), x4, .fz (.int (m : Int)), .ow [], x7] := fun D hD => by
          have st : forD (gN 7) (wIfS (wTest (wOp (rdIs false) (wIxV 3 (wVar 7)) (wC .none))) (wSeq (wSetIx 3 (wVar 7) (wVar 5)) (wDrop (wExtA 6 (wOp rdIx (wVar 0) (wVar 7))))) wNext) D (natsD ls) [.fz (.list (nearD n ts)), .ow fo, .fz (.int (s : Int)), .ow (rowG n g), .fz (.list (natsD ls)), .fz (.int (m : Int)), .ow (natsD []), x7] := by
            refine forD_inv (fun i ρ => ∃ (g : Nat → Option Nat) (zs : List Nat) (x7 : Sl), (∀ v, v < n → ∀ j, g v = some j ↔ (IsDist ts s v j ∧ (j < m ∨ (j = m ∧ v ∈ ls.take i)))) ∧ zs.Nodup ∧ (∀ z, z ∈ zs ↔ (IsDist ts s z m ∧ z ∈ ls.take i)) ∧
              ρ = [.fz (.list (nearD n ts)), .ow fo, .fz (.int (s : Int)), .ow (rowG n g), .fz (.list (natsD ls)), .fz (.int (m : Int)), .ow (natsD (zs.flatMap (nbl ts (List.range n)))), x7]) ⟨g, [], x7, fun v hv j => by rw [hg v hv]; simp, by simp, by simp, rfl⟩ ?_ ?_
            · rintro i d ρ hd ⟨g, zs, x7, hg, nd, hz, rfl⟩ N3 hN3
              rw [natsD_get] at hd
              cases hli : ls[i]? with
              | none => rw [hli] at hd; cases hd
              | some t =>
                rw [hli] at hd
                cases hd
                obtain ⟨htn, j, hj, dj⟩ := hl2 t (List.mem_of_getElem? hli)
                have ht : ls.take (i + 1) = ls.take i ++ [t] := by rw [List.take_add_one, hli]; rfl
                have zl := nodup_len nd fun z hz' => ok.wk hs ((hz z).mp hz').1.1
                have fl := flat_nbl_len (n := n) (ts := ts) zs
                have nl : (nbl ts (List.range n) t).length ≤ n := Nat.le_trans (List.length_filter_le _ _) (by simp)
                have fl2 : zs.length * n ≤ 10 * 10 := Nat.mul_le_mul (by omega) n10
                by_cases c : g t = none
                · -- t is new
                  have ejm : j = m := by
                    rcases Nat.lt_or_ge j m with z | z
                    · rw [(hg t htn j).mpr ⟨dj, .inl z⟩] at c
                      cases c
                    · omega
                  subst ejm
                  have htz : t ∉ ls.take i := fun z => by
                    rw [(hg t htn j).mpr ⟨dj, .inr ⟨rfl, z⟩⟩] at c
                    cases c
                  generalize hFL : zs.flatMap (nbl ts (List.range n)) = FL at fl ⊢
                  simp [rowG_at g htn, c, optD, ixN_nat htn, near_at htn]
                  refine ⟨by omega, hN3 _ ⟨fun u => if u = t then some j else g u, zs ++ [t], .fz (.int (t : Int)), fun v hv k => ?_, ?_, fun z => ?_, ?_⟩⟩
                  · show (if v = t then some j else g v) = some k ↔ _
                    by_cases e : v = t
                    · subst e
                      rw [if_pos rfl, ht]
                      constructor
                      · intro q
                        cases q
                        exact ⟨dj, .inr ⟨rfl, by simp⟩⟩
                      · rintro ⟨q, _⟩
                        rw [isDist_uniq q dj]
                    · rw [if_neg e, hg v hv, ht]
                      simp [e]
                  · rw [List.nodup_append]
                    refine ⟨nd, by simp, fun a ha b hb e => ?_⟩
                    rw [List.mem_singleton.mp hb] at e
                    subst e
                    exact htz ((hz a).mp ha).2
                  · rw [List.mem_append, hz, ht, List.mem_append, List.mem_singleton]
                    constructor
                    · rintro (⟨a, b⟩ | rfl)
                      · exact ⟨a, .inl b⟩
                      · exact ⟨dj, .inr rfl⟩
                    · rintro ⟨a, b | b⟩
                      · exact .inl ⟨a, b⟩
                      · exact .inr b
                  · rw [List.flatMap_append, hFL]
                    simp [rowG_set]
                · obtain ⟨q, hq⟩ : ∃ q, g t = some q := by
                    cases e : g t with
                    | none => exact absurd e c
                    | some q => exact ⟨q, rfl⟩
                  have hq2 := (hg t htn q).mp hq
                  have same : ∀ v, (v ∈ ls.take (i + 1) ∧ IsDist ts s v m) ↔ (v ∈ ls.take i ∧ IsDist ts s v m) := fun v => by
                    rw [ht, List.mem_append, List.mem_singleton]
                    constructor
                    · rintro ⟨a | rfl, b⟩
                      · exact ⟨a, b⟩
                      · have := isDist_uniq hq2.1 b
                        rcases hq2.2 with z | z
                        · omega
                        · exact ⟨z.2, b⟩
                    · rintro ⟨a, b⟩
                      exact ⟨.inl a, b⟩
                  simp [rowG_at g htn, hq, optD]
                  refine hN3 _ ⟨g, zs, .fz (.int (t : Int)), fun v hv k => ?_, nd, fun z => ?_, rfl⟩
                  · rw [hg v hv]
                    constructor
                    · rintro ⟨a, b | ⟨rfl, b⟩⟩
                      · exact ⟨a, .inl b⟩
                      · exact ⟨a, .inr ⟨rfl, ((same v).mpr ⟨b, a⟩).1⟩⟩
                    · rintro ⟨a, b | ⟨rfl, b⟩⟩
                      · exact ⟨a, .inl b⟩
                      · exact ⟨a, .inr ⟨rfl, ((same v).mp ⟨b, a⟩).1⟩⟩
                  · rw [hz]
                    have := same z
                    constructor
                    · rintro ⟨a, b⟩
                      exact ⟨a, (this.mpr ⟨b, a⟩).1⟩
                    · rintro ⟨a, b⟩
                      exact ⟨a, (this.mp ⟨b, a⟩).1⟩
            · rintro ρ ⟨g, zs, x7, hg, nd, hz, rfl⟩
              rw [natsD_len, List.take_length] at hg hz
              have zl := nodup_len nd fun z hz' => ok.wk hs ((hz z).mp hz').1.1
              have fl := flat_nbl_len (n := n) (ts := ts) zs
              have fl2 : zs.length * n ≤ 10 * 10 := Nat.mul_le_mul (by omega) n10
              refine hD g (zs.flatMap (nbl ts (List.range n))) x7 (fun v hv j => ?_) (by omega) (fun v hv => ?_) fun v hv => ?_
              · rw [hg v hv]
                constructor
                · rintro ⟨a, b | ⟨rfl, _⟩⟩
                  · exact ⟨a, by omega⟩
                  · exact ⟨a, by omega⟩
                · rintro ⟨a, b⟩
                  rcases Nat.lt_or_ge j m with z | z
                  · exact ⟨a, .inl z⟩
                  · have : j = m := by omega
                    subst this
                    exact ⟨a, .inr ⟨rfl, hl1 v a⟩⟩
              · obtain ⟨u, du, t⟩ := isDist_step hv
                exact List.mem_flatMap.mpr ⟨u, (hz u).mpr ⟨du, hl1 u du⟩, (mem_nbl ok).mpr t⟩
              · obtain ⟨u, hu, hvu⟩ := List.mem_flatMap.mp hv
                have du := ((hz u).mp hu).1
                have t := (mem_nbl ok).mp hvu
                obtain ⟨j, hj, d⟩ := isDist_of (Wk.go du.1 t)
                exact ⟨(ok.tl t).2.1, j, hj, d⟩
          unfold lp1__law_far
          rcases hx4 with rfl | rfl
          · simpa [natsD] using st
          · simpa [natsD] using st
        simp
        refine key _ fun g l2 x7 h1 h2 h3 h4 => ?_
        simp
        exact hN3 g l2 x7 h1 h2 h3 h4
      · rintro ρ ⟨g, ls, x4, x5, x6, x7, hg, hll, hl1, hl2, hx4, rfl⟩
        simp at hg
        simp
        refine ⟨by omega, hN _ ⟨.fz (.int (s : Int)), .fz (.list (rowG n g)), x4, x5, x6, x7, ?_⟩⟩
        have e : rowG n g = rowG n (dist ts s) := by
          unfold rowG
          refine List.map_congr_left fun v hv => ?_
          have hv := List.mem_range.mp hv
          have : g v = dist ts s v := by
            cases e : dist ts s v with
            | none =>
              cases e2 : g v with
              | none => rfl
              | some j => exact absurd ((hg v hv j).mp e2).1 (dist_none.mp e j)
            | some j =>
              have d := dist_some.mp e
              exact (hg v hv j).mpr ⟨d, isDist_lt ok hs d⟩
          rw [this]
        rw [List.range_succ, List.map_append, hfo, e]
        rfl
    · rintro ρ ⟨x2, x3, x4, x5, x6, x7, rfl⟩
      simp
      exact h
  · exact h.elim
end G

set_option Elab.async false
set_option linter.all false
set_option maxRecDepth 100000
set_option maxHeartbeats 1000000
namespace G
open PySem PySem.Spec PyProof.Rows L2 DC
/-- a tree that is drawn: names in any sequence, each but the first tied to one before it -/
theorem drawn_tree {n : Nat} {ns : List Nat} {f : Nat → Nat} {ts : List (Nat × Nat)} (h1 : 1 ≤ n) (h10 : n ≤ 10) (hp : ns.Perm (List.range n)) (hf : ∀ i, i < n - 1 → f i < i + 1) (E : List (Nat × Nat))
    (hE : E = (List.range (n - 1)).map fun i => (ns.getD (f i) 0, ns.getD (i + 1) 0)) (asc : ts.Pairwise lexL) (hm : ∀ p, p ∈ ts ↔ ∃ q ∈ E, q.1 ≠ q.2 ∧ p = norm q) : IsTree n ts := by
  have hl : ns.length = n := by simpa using hp.length_eq
  have nd : ns.Nodup := hp.nodup_iff.mpr List.nodup_range
  have get : ∀ i, i < n → ns.getD i 0 < n := fun i hi => by
    have : ns.getD i 0 ∈ ns := by
      rw [List.getD_eq_getElem?_getD, List.getElem?_eq_getElem (by omega)]
      exact List.getElem_mem _
    exact List.mem_range.mp (hp.mem_iff.mp this)
  have inj : ∀ i j, i < n → j < n → ns.getD i 0 = ns.getD j 0 → i = j := fun i j hi hj e => by
    rw [List.getD_eq_getElem?_getD, List.getD_eq_getElem?_getD, List.getElem?_eq_getElem (by omega), List.getElem?_eq_getElem (by omega)] at e
    exact (List.getElem?_inj (by omega) nd).mp (by rw [List.getElem?_eq_getElem (by omega), List.getElem?_eq_getElem (by omega)]; exact congrArg some e)
  have memE : ∀ q, q ∈ E ↔ ∃ i, i < n - 1 ∧ q = (ns.getD (f i) 0, ns.getD (i + 1) 0) := fun q => by
    rw [hE, List.mem_map]
    constructor
    · rintro ⟨i, hi, rfl⟩; exact ⟨i, List.mem_range.mp hi, rfl⟩
    · rintro ⟨i, hi, rfl⟩; exact ⟨i, List.mem_range.mpr hi, rfl⟩
  have ne : ∀ i, i < n - 1 → ns.getD (f i) 0 ≠ ns.getD (i + 1) 0 := fun i hi e => by
    have := hf i hi
    have := inj (f i) (i + 1) (by omega) (by omega) e
    omega
  have hmm : ∀ p, p ∈ ts ↔ p ∈ E.map norm := fun p => by
    rw [hm, List.mem_map]
    constructor
    · rintro ⟨q, hq, _, rfl⟩; exact ⟨q, hq, rfl⟩
    · rintro ⟨q, hq, rfl⟩
      obtain ⟨i, hi, rfl⟩ := (memE q).mp hq
      exact ⟨_, hq, ne i hi, rfl⟩
  have ndE : (E.map norm).Nodup := by
    rw [hE, List.map_map]
    refine List.pairwise_map.mpr (List.Pairwise.imp_of_mem (fun {i j} hi hj z e => ?_) List.pairwise_lt_range)
    have hi := List.mem_range.mp hi
    have hj := List.mem_range.mp hj
    have fi := hf i hi
    have fj := hf j hj
    simp only [Function.comp, norm, Prod.mk.injEq] at e
    have a1 := inj (i + 1) (j + 1) (by omega) (by omega)
    have a2 := inj (f i) (j + 1) (by omega) (by omega)
    omega
  have ndt : ts.Nodup := asc.imp fun {a b} z e => by subst e; unfold lexL at z; omega
  have pm : ts.Perm (E.map norm) := (List.perm_ext_iff_of_nodup ndt ndE).mpr hmm
  have len : ts.length + 1 = n := by
    rw [pm.length_eq, List.length_map, hE, List.length_map, List.length_range]
    omega
  have tie : ∀ p ∈ ts, p.1 < p.2 ∧ p.2 < n := fun p hpt => by
    obtain ⟨q, hq, hne, rfl⟩ := (hm p).mp hpt
    obtain ⟨i, hi, rfl⟩ := (memE q).mp hq
    have := get (f i) (by have := hf i hi; omega)
    have := get (i + 1) (by omega)
    simp only [norm] at hne ⊢
    omega
  have td : ∀ i, i < n - 1 → tied ts (ns.getD (f i) 0) (ns.getD (i + 1) 0) = true := fun i hi => by
    have : norm (ns.getD (f i) 0, ns.getD (i + 1) 0) ∈ ts := (hm _).mpr ⟨_, (memE _).mpr ⟨i, hi, rfl⟩, ne i hi, rfl⟩
    unfold tied
    rw [decide_eq_true_eq]
    simp only [norm] at this
    by_cases z : ns.getD (f i) 0 ≤ ns.getD (i + 1) 0
    · rw [Nat.min_eq_left z, Nat.max_eq_right z] at this
      exact .inl this
    · rw [Nat.min_eq_right (by omega), Nat.max_eq_left (by omega)] at this
      exact .inr this
  have re : ∀ i, i < n → Reach ts (full n) (ns.getD 0 0) (ns.getD i 0) := by
    intro i
    induction i using Nat.strongRecOn with
    | ind i ih =>
      intro hi
      cases i with
      | zero => exact .here
      | succ i =>
        have := hf i (by omega)
        exact .go (ih (f i) (by omega) (by omega)) (td i (by omega)) (by rw [testBit_full]; exact decide_eq_true (get _ hi))
  have all : ∀ v, v < n → Reach ts (full n) (ns.getD 0 0) v := fun v hv => by
    have hv' : v ∈ ns := hp.mem_iff.mpr (List.mem_range.mpr hv)
    obtain ⟨i, hi, e⟩ := List.getElem_of_mem hv'
    have := re i (by omega)
    rw [List.getD_eq_getElem?_getD (l := ns) (i := i), List.getElem?_eq_getElem hi] at this
    simpa [e] using this
  have h0 : (full n).testBit (ns.getD 0 0) = true := by rw [testBit_full]; exact decide_eq_true (get 0 h1)
  have gr : ∀ k, k < n → Grown (ns.take (k + 1)) ((List.range k).map fun i => norm (ns.getD (f i) 0, ns.getD (i + 1) 0)).reverse := by
    intro k
    induction k with
    | zero =>
      intro _
      have e : ns.take 1 = [ns.getD 0 0] := by
        cases ns with
        | nil => simp at hl; omega
        | cons a r => rfl
      rw [e]
      exact .one _
    | succ k ih =>
      intro hk
      have := hf k (by omega)
      have e : ns.take (k + 1 + 1) = ns.take (k + 1) ++ [ns.getD (k + 1) 0] := by
        rw [List.take_add_one, List.getD_eq_getElem?_getD, List.getElem?_eq_getElem (by omega)]
        rfl
      have hu : ns.getD (f k) 0 ∈ ns.take (k + 1) := by
        rw [List.getD_eq_getElem?_getD, List.getElem?_eq_getElem (by omega), Option.getD_some]
        exact List.mem_take_iff_getElem.mpr ⟨f k, by omega, rfl⟩
      have hv : ns.getD (k + 1) 0 ∉ ns.take (k + 1) := fun z => by
        obtain ⟨i, hi, e2⟩ := List.mem_take_iff_getElem.mp z
        have h3 : ns.getD i 0 = ns.getD (k + 1) 0 := by
          rw [List.getD_eq_getElem?_getD (i := i), List.getElem?_eq_getElem (by omega), Option.getD_some]
          exact e2
        have := inj i (k + 1) (by omega) (by omega) h3
        omega
      refine ((ih (by omega)).add hu hv).perm ?_ ?_
      · rw [e]
        exact (List.perm_append_singleton _ _).symm
      · rw [List.range_succ, List.map_append, List.reverse_append]
        exact List.Perm.refl _
  have gr2 : Grown (List.range n) ts := by
    refine (gr (n - 1) (by omega)).perm ?_ ?_
    · rw [show n - 1 + 1 = n by omega, List.take_of_length_le (by omega)]
      exact hp
    · refine (List.reverse_perm _).trans ?_
      rw [hE, List.map_map] at pm
      exact pm.symm
  exact ⟨⟨h10, tie, asc, by omega⟩, h1, len, fun v hv => ((all 0 h1).symm h0).trans (all v hv), gr2⟩
theorem nats_perm {ds : List PyData} {n : Nat} (h : ds.Perm ((List.range n).map fun i : Nat => PyData.int (i : Int))) : ∃ ns : List Nat, ds = natsD ns ∧ ns.Perm (List.range n) := by
  let g : PyData → Nat := fun d => match d with
    | .int i => i.toNat
    | _ => 0
  refine ⟨ds.map g, ?_, ?_⟩
  · unfold natsD
    rw [List.map_map]
    have : ∀ d ∈ ds, ((fun i : Nat => PyData.int (i : Int)) ∘ g) d = d := fun d hd => by
      obtain ⟨i, _, rfl⟩ := List.mem_map.mp (h.mem_iff.mp hd)
      rfl
    rw [List.map_congr_left this, List.map_id']
  · have := h.map g
    rw [List.map_map] at this
    have e : (g ∘ fun i : Nat => PyData.int (i : Int)) = id := rfl
    rwa [e, List.map_id] at this
theorem vc__law_tree : vS__law_tree := by
  intro fs as Q h a
  unfold S__law_tree at h
  split at h
  · rename_i m
    obtain ⟨B, hf, hB, rfl, h⟩ := h
    simp [w__law_tree, S__law_draw]
    refine ⟨B, hf, by omega, fun r fs1 r1 hf1 => ?_⟩
    obtain ⟨n, hn⟩ : ∃ n : Nat, 1 + (r : Int) = n := ⟨1 + r, by omega⟩
    rw [hn]
    simp [S__law_mixed]
    refine ⟨by omega, B + 1, hf1, by omega, by omega, fun ds' fs2 hp hf2 => ?_⟩
    obtain ⟨ns, rfl, hpn⟩ := nats_perm hp
    have hnl : ns.length = n := by simpa using hpn.length_eq
    simp [S__law_tree_ties]
    refine ⟨B + 1 + n, hf2, by omega, n, rfl, by omega, fun f fs3 hfl hf3 => ?_⟩
    refine ⟨by omega, lcD_map (fun i : Nat => tieD (f i, i + 1)) (fun i : Nat => some (tieD (ns.getD (f i) 0, ns.getD (i + 1) 0))) (fun i hi N q => ?_) ?_⟩
    · have hi' := List.mem_range.mp hi
      have hfi := hfl i hi'
      have g : ∀ j, j < n → atI (natsD ns) ((j : Nat) : Int) = some (.int (ns.getD j 0 : Nat)) := fun j hj => by
        rw [atI_n, natsD_get, List.getD_eq_getElem?_getD, List.getElem?_eq_getElem (by omega)]
        rfl
      have g1 := g (f i) (by omega)
      have g2 := g (i + 1) (by omega)
      rw [Int.natCast_add, Int.natCast_one] at g2
      simp [tieD, g1, g2]
      simpa [tieD] using q
    · simp
      refine ⟨n, (List.range (n - 1)).map (fun i => (ns.getD (f i) 0, ns.getD (i + 1) 0)), rfl, .inl ?_, by simp; omega, ?_, fun ts t1 t2 => ?_⟩
      · simp
      · intro p hpm
        obtain ⟨i, hi, rfl⟩ := List.mem_map.mp hpm
        have lt : ∀ j, ns.getD j 0 < 1000 := fun j => by
          rw [List.getD_eq_getElem?_getD]
          cases e : ns[j]? with
          | none => simp
          | some x =>
            have := List.mem_range.mp (hpn.mem_iff.mp (List.mem_of_getElem? e))
            simp
            omega
        exact ⟨lt _, lt _⟩
      · simp
        exact h n ts fs3 (drawn_tree (by omega) (by omega) hpn hfl _ rfl t1 t2) (hf3.up (by omega))
  · exact h.elim
theorem pcs_tree {n : Nat} {ts : List (Nat × Nat)} (t : IsTree n ts) : pcs ts (full n) = [full n] := by
  have n10 := t.ok.n10
  have hl := pow_16 (full_lt n) n10
  have bit : ∀ i, (full n).testBit i = true ↔ i < n := fun i => by rw [testBit_full, decide_eq_true_eq]
  have h0 : (full n).testBit 0 = true := (bit 0).mpr t.pos
  have hh : heads ts (full n) = [0] := by
    refine asc_nats (asc_heads _ _) (by simp) fun x => ?_
    rw [mem_heads hl]
    constructor
    · rintro ⟨h1, h2⟩
      rcases Nat.eq_zero_or_pos x with rfl | z
      · simp
      · exact absurd (t.con x ((bit x).mp h1)) (h2 0 z h0)
    · intro z
      rw [List.mem_singleton.mp z]
      exact ⟨h0, fun r hr => by omega⟩
  have hc : comp ts (full n) 0 = full n := eq_of_bits fun i => by
    rw [bit_comp hl h0, bit]
    constructor
    · intro z
      exact (bit i).mp (z.inn h0)
    · exact t.con i
  unfold pcs
  rw [hh, List.map_singleton, hc]
theorem vc_need_tree (C_Ties : Addr) : vS_need_tree C_Ties := by
  intro as Q h
  unfold S_need_tree at h
  split at h
  · rename_i d l
    obtain ⟨n, ts, rfl, t, hl, h⟩ := h
    have len := t.len
    have hp := pieces_ties n ts
    simp at hp
    have e1 : (n : Int) - 1 = ts.length := by omega
    simp [w_need_tree, S_need_web]
    refine ⟨n, ts, rfl, t.ok, n, ts, rfl, t.ok, ?_⟩
    simp [webD]
    refine ⟨hl, by omega, hp, ?_⟩
    simp [S_Ties_pieces]
    refine ⟨n, ts, rfl, t.ok, _, rfl, full_lt n, ?_⟩
    rw [pcs_tree t]
    simpa using h
  · exact h.elim
end G

set_option Elab.async false
set_option linter.all false
set_option maxRecDepth 100000
set_option maxHeartbeats 1000000
/-! First forms: plain law. -/
namespace K87
open PySem PySem.Spec PyProof.Rows L2 DC G
theorem bitsR_snoc (ts : List (Nat × Nat)) (r : List Nat) (t : Nat) : bitsR ts (r ++ [t]) = bitsR ts r ++ col ts r t := by
  unfold bitsR
  rw [List.length_append, List.length_singleton, List.range_succ, List.flatMap_append, List.flatMap_singleton]
  congr 1
  · have : ∀ k ∈ List.range r.length, col ts ((r ++ [t]).take k) ((r ++ [t]).getD k 0) = col ts (r.take k) (r.getD k 0) := fun k hk => by
      have hk := List.mem_range.mp hk
      rw [List.take_append_of_le_length (by omega), List.getD_eq_getElem?_getD, List.getElem?_append_left hk, List.getD_eq_getElem?_getD]
    rw [List.flatMap_def, List.flatMap_def, List.map_congr_left this]
  · rw [List.take_append_of_le_length (Nat.le_refl _), List.take_length, List.getD_eq_getElem?_getD, List.getElem?_append_right (Nat.le_refl _)]
    simp
theorem col_len (ts : List (Nat × Nat)) (r : List Nat) (t : Nat) : (col ts r t).length = r.length := by simp [col]
theorem bitsR_len (ts us : List (Nat × Nat)) : ∀ (k : Nat) (r s : List Nat), r.length = k → s.length = k → (bitsR ts r).length = (bitsR us s).length
  | 0, r, s, hr, hs => by
    rw [List.eq_nil_of_length_eq_zero hr, List.eq_nil_of_length_eq_zero hs]
    rfl
  | k + 1, r, s, hr, hs => by
    obtain ⟨r', t, rfl⟩ : ∃ r' t, r = r' ++ [t] := ⟨r.dropLast, r.getLast (fun e => by rw [e] at hr; cases hr), (List.dropLast_concat_getLast _).symm⟩
    obtain ⟨s', u, rfl⟩ : ∃ s' u, s = s' ++ [u] := ⟨s.dropLast, s.getLast (fun e => by rw [e] at hs; cases hs), (List.dropLast_concat_getLast _).symm⟩
    rw [List.length_append, List.length_singleton] at hr hs
    rw [bitsR_snoc, bitsR_snoc, List.length_append, List.length_append, col_len, col_len, bitsR_len ts us k r' s' (by omega) (by omega)]
    omega
theorem lex_app : ∀ {a b c d : List Nat}, a.length = b.length → (a ++ c ≤ b ++ d ↔ a < b ∨ (a = b ∧ c ≤ d))
  | [], [], c, d, _ => by simp
  | x :: a, y :: b, c, d, h => by
    have ih := lex_app (a := a) (b := b) (c := c) (d := d) (by simpa using h)
    rw [List.cons_append, List.cons_append, List.cons_le_cons_iff, List.cons_lt_cons_iff, ih]
    constructor
    · rintro (h | ⟨h, h2 | ⟨h2, h3⟩⟩)
      · exact .inl (.inl h)
      · exact .inl (.inr ⟨h, h2⟩)
      · exact .inr ⟨by rw [h, h2], h3⟩
    · rintro ((h | ⟨h, h2⟩) | ⟨h, h2⟩)
      · exact .inl h
      · exact .inr ⟨h, .inl h2⟩
      · cases h
        exact .inr ⟨rfl, .inr ⟨rfl, h2⟩⟩
theorem pre_snoc {n k : Nat} {r : List Nat} {t : Nat} : Pre n (k + 1) (r ++ [t]) ↔ Pre n k r ∧ t ∉ r ∧ t < n := by
  unfold Pre
  rw [List.length_append, List.length_singleton, List.nodup_append]
  constructor
  · rintro ⟨h1, ⟨h2, _, h3⟩, h4⟩
    exact ⟨⟨by omega, h2, fun x hx => h4 x (List.mem_append_left _ hx)⟩, fun z => h3 t z t (List.mem_singleton.mpr rfl) rfl, h4 t (by simp)⟩
  · rintro ⟨⟨h1, h2, h3⟩, h4, h5⟩
    refine ⟨by omega, ⟨h2, by simp, fun x hx y hy e => ?_⟩, fun x hx => ?_⟩
    · rw [List.mem_singleton.mp hy] at e
      rw [e] at hx
      exact h4 hx
    · rcases List.mem_append.mp hx with hx | hx
      · exact h3 x hx
      · rw [List.mem_singleton.mp hx]; exact h5
theorem pre_split {n k : Nat} {r : List Nat} (h : Pre n (k + 1) r) : ∃ r' t, r = r' ++ [t] := ⟨r.dropLast, r.getLast (fun e => by rw [e] at h; cases h.1), (List.dropLast_concat_getLast _).symm⟩
/-- the best rows, longer by one -/
theorem best_snoc {n k : Nat} {ts : List (Nat × Nat)} (ex : ∃ r t, Best n k ts r ∧ t ∉ r ∧ t < n) {r : List Nat} {t : Nat} : Best n (k + 1) ts (r ++ [t]) ↔ (Best n k ts r ∧ t ∉ r ∧ t < n) ∧ ∀ r' t', Best n k ts r' → t' ∉ r' → t' < n → col ts r t ≤ col ts r' t' := by
  have len : ∀ {r s : List Nat}, Pre n k r → Pre n k s → (bitsR ts r).length = (bitsR ts s).length := fun a b => bitsR_len ts ts k _ _ a.1 b.1
  have eqb : ∀ {r s : List Nat}, Best n k ts r → Best n k ts s → bitsR ts r = bitsR ts s := fun a b => List.le_antisymm (a.2 _ b.1) (b.2 _ a.1)
  constructor
  · rintro ⟨h1, h2⟩
    obtain ⟨p1, p2, p3⟩ := pre_snoc.mp h1
    have hb : Best n k ts r := by
      refine ⟨p1, fun r' hr' => ?_⟩
      obtain ⟨r0, t0, b0, n0, l0⟩ := ex
      have a := h2 (r0 ++ [t0]) (pre_snoc.mpr ⟨b0.1, n0, l0⟩)
      rw [bitsR_snoc, bitsR_snoc, lex_app (len p1 b0.1)] at a
      have c := b0.2 _ hr'
      rcases a with a | ⟨a, _⟩
      · exact List.le_trans (List.le_of_lt a) c
      · rw [a]; exact c
    refine ⟨⟨hb, p2, p3⟩, fun r' t' b' n' l' => ?_⟩
    have a := h2 (r' ++ [t']) (pre_snoc.mpr ⟨b'.1, n', l'⟩)
    rw [bitsR_snoc, bitsR_snoc, lex_app (len p1 b'.1)] at a
    rcases a with a | ⟨_, a⟩
    · rw [eqb hb b'] at a
      exact absurd a (List.lt_irrefl _)
    · exact a
  · rintro ⟨⟨hb, p2, p3⟩, h⟩
    refine ⟨pre_snoc.mpr ⟨hb.1, p2, p3⟩, fun s hs => ?_⟩
    obtain ⟨r', t', rfl⟩ := pre_split hs
    obtain ⟨q1, q2, q3⟩ := pre_snoc.mp hs
    rw [bitsR_snoc, bitsR_snoc, lex_app (len hb.1 q1)]
    rcases List.le_iff_lt_or_eq.mp (hb.2 _ q1) with c | c
    · exact .inl c
    · have b' : Best n k ts r' := ⟨q1, fun u hu => by rw [← c]; exact hb.2 u hu⟩
      exact .inr ⟨c, h r' t' b' q2 q3⟩
theorem best_nil (n : Nat) (ts : List (Nat × Nat)) {r : List Nat} : Best n 0 ts r ↔ r = [] := by
  constructor
  · intro h
    exact List.eq_nil_of_length_eq_zero h.1.1
  · rintro rfl
    refine ⟨⟨rfl, List.nodup_nil, by simp⟩, fun r' h => ?_⟩
    rw [List.eq_nil_of_length_eq_zero h.1]
    exact List.le_refl _
theorem pre_full {n k : Nat} {r : List Nat} (h : Pre n k r) (a : ∀ t, t < n → t ∈ r) : r.Perm (List.range n) :=
  (List.perm_ext_iff_of_nodup h.2.1 List.nodup_range).mpr fun x => ⟨fun hx => List.mem_range.mpr (h.2.2 x hx), fun hx => a x (List.mem_range.mp hx)⟩
theorem pre_perm {n : Nat} {r : List Nat} : Pre n n r ↔ r.Perm (List.range n) := by
  constructor
  · intro h
    refine pre_full h fun t ht => Classical.byContradiction fun c => ?_
    have := nodup_len (zs := t :: r) (n := n) (List.nodup_cons.mpr ⟨c, h.2.1⟩) fun z hz => (List.mem_cons.mp hz).elim (fun e => by rw [e]; exact ht) (h.2.2 z)
    rw [List.length_cons, h.1] at this
    omega
  · intro h
    exact ⟨by simpa using h.length_eq, h.nodup_iff.mpr List.nodup_range, fun x hx => List.mem_range.mp (h.mem_iff.mp hx)⟩
/-- a thing that is left -/
theorem pre_left {n k : Nat} {r : List Nat} (h : Pre n k r) (hk : k < n) : ∃ t, t ∉ r ∧ t < n := by
  refine Classical.byContradiction fun c => ?_
  have := (pre_full h fun t ht => Classical.byContradiction fun z => c ⟨t, z, ht⟩).length_eq
  rw [List.length_range, h.1] at this
  omega
theorem ren_unique {n : Nat} {ord : List Nat} {ts us us' : List (Nat × Nat)} (h : ∀ i j, i < n → j < n → tied us i j = tied us' i j) (ok : Ok n us) (ok' : Ok n us') : us = us' := by
  have key : ∀ {us us' : List (Nat × Nat)}, Ok n us → Ok n us' → (∀ i j, i < n → j < n → tied us i j = tied us' i j) → ∀ p, p ∈ us → p ∈ us' := fun {us us'} ok ok' h p hp => by
    have a := ok.tie p hp
    have b : tied us p.1 p.2 = true := by unfold tied; exact decide_eq_true (.inl hp)
    rw [h _ _ (by omega) a.2] at b
    unfold tied at b
    rcases of_decide_eq_true b with b | b
    · exact b
    · have := ok'.tie _ b
      simp only at this
      omega
  exact asc_ties ok.asc ok'.asc fun p => ⟨key ok ok' h p, key ok' ok (fun i j hi hj => (h i j hi hj).symm) p⟩
theorem bits_cols {ts us : List (Nat × Nat)} : ∀ {k : Nat} {r s : List Nat}, r.length = k → s.length = k → bitsR ts r = bitsR us s → ∀ i j, i < j → j < k → tied ts (r.getD j 0) (r.getD i 0) = tied us (s.getD j 0) (s.getD i 0)
  | 0, _, _, _, _, _ => fun i j _ h => by omega
  | k + 1, r, s, hr, hs, e => by
    obtain ⟨r', t, rfl⟩ : ∃ r' t, r = r' ++ [t] := ⟨r.dropLast, r.getLast (fun e => by rw [e] at hr; cases hr), (List.dropLast_concat_getLast _).symm⟩
    obtain ⟨s', u, rfl⟩ : ∃ s' u, s = s' ++ [u] := ⟨s.dropLast, s.getLast (fun e => by rw [e] at hs; cases hs), (List.dropLast_concat_getLast _).symm⟩
    rw [List.length_append, List.length_singleton] at hr hs
    rw [bitsR_snoc, bitsR_snoc] at e
    obtain ⟨e1, e2⟩ := List.append_inj e (bitsR_len ts us k r' s' (by omega) (by omega))
    have g : ∀ (l : List Nat) (x j : Nat), j < l.length → (l ++ [x]).getD j 0 = l.getD j 0 := fun l x j h => by
      rw [List.getD_eq_getElem?_getD, List.getElem?_append_left h, List.getD_eq_getElem?_getD]
    have g' : ∀ (l : List Nat) (x : Nat), (l ++ [x]).getD l.length 0 = x := fun l x => by
      rw [List.getD_eq_getElem?_getD, List.getElem?_append_right (Nat.le_refl _)]
      simp
    intro i j hij hj
    by_cases c : j < k
    · rw [g r' t j (by omega), g r' t i (by omega), g s' u j (by omega), g s' u i (by omega)]
      exact bits_cols (by omega) (by omega) e1 i j hij c
    · have hjk : j = k := by omega
      subst hjk
      have er : r'.length = j := by omega
      have es : s'.length = j := by omega
      have a1 := g' r' t
      have a2 := g' s' u
      rw [er] at a1
      rw [es] at a2
      rw [a1, a2, g r' t i (by omega), g s' u i (by omega)]
      have z := congrArg (fun l : List Nat => l[i]?) e2
      simp only [col, List.getElem?_map] at z
      rw [List.getElem?_eq_getElem (by omega), List.getElem?_eq_getElem (by omega)] at z
      rw [List.getD_eq_getElem?_getD, List.getElem?_eq_getElem (by omega), List.getD_eq_getElem?_getD, List.getElem?_eq_getElem (by omega)]
      simp only [Option.map_some, Option.some.injEq, Option.getD_some] at z ⊢
      cases h1 : tied ts t r'[i] <;> cases h2 : tied us u s'[i] <;> simp [h1, h2] at z ⊢
theorem tied_symm (ts : List (Nat × Nat)) (a b : Nat) : tied ts a b = tied ts b a := by
  unfold tied
  exact decide_eq_decide.mpr Or.comm
theorem tied_self {n : Nat} {ts : List (Nat × Nat)} (ok : Ok n ts) (a : Nat) : tied ts a a = false := by
  unfold tied
  refine decide_eq_false ?_
  rintro (h | h) <;> exact absurd (ok.tie _ h).1 (Nat.lt_irrefl _)
theorem tied_all {n : Nat} {ts us : List (Nat × Nat)} {r s : List Nat} {f : List (Nat × Nat) → List Nat → Nat → Nat → Bool} (h : ∀ i j, i < j → j < n → f ts r j i = f us s j i) (sy : ∀ ts r i j, f ts r i j = f ts r j i) (se : ∀ i, f ts r i i = f us s i i) : ∀ i j, i < n → j < n → f ts r i j = f us s i j := by
  intro i j hi hj
  rcases Nat.lt_trichotomy i j with c | c | c
  · rw [sy ts, sy us]; exact h i j c hj
  · subst c; exact se i
  · exact h j i c hi
theorem first_unique {n : Nat} {ts us us' : List (Nat × Nat)} (ok : Ok n ts) (h : First n ts us) (h' : First n ts us') : us = us' := by
  obtain ⟨o, b, e⟩ := h
  obtain ⟨o', b', e'⟩ := h'
  have eb : bitsR ts o = bitsR ts o' := List.le_antisymm (b.2 _ b'.1) (b'.2 _ b.1)
  have cs := bits_cols b.1.1 b'.1.1 eb
  refine ren_unique (ord := o) (ts := ts) (fun i j hi hj => ?_) e.ok e'.ok
  rw [e.eq i j hi hj, e'.eq i j hi hj]
  exact tied_all (n := n) (ts := ts) (us := ts) (r := o) (s := o') (f := fun ts r i j => tied ts (r.getD i 0) (r.getD j 0)) cs (fun ts r i j => tied_symm _ _ _) (fun i => by rw [tied_self ok, tied_self ok]) i j hi hj
theorem getD_map (o r : List Nat) (i : Nat) (h : i < r.length) : (r.map fun x => o.getD x 0).getD i 0 = o.getD (r.getD i 0) 0 := by
  rw [List.getD_eq_getElem?_getD, List.getElem?_map, List.getElem?_eq_getElem h, List.getD_eq_getElem?_getD (l := r), List.getElem?_eq_getElem h]
  rfl
theorem perm_getD {n : Nat} {o : List Nat} (ho : o.Perm (List.range n)) {i : Nat} (h : i < n) : o.getD i 0 < n := by
  have hl : o.length = n := by simpa using ho.length_eq
  rw [List.getD_eq_getElem?_getD, List.getElem?_eq_getElem (by omega)]
  exact List.mem_range.mp (ho.mem_iff.mp (List.getElem_mem _))
theorem perm_inj {n : Nat} {o : List Nat} (ho : o.Perm (List.range n)) {i j : Nat} (hi : i < n) (hj : j < n) (e : o.getD i 0 = o.getD j 0) : i = j := by
  have hl : o.length = n := by simpa using ho.length_eq
  have nd : o.Nodup := ho.nodup_iff.mpr List.nodup_range
  rw [List.getD_eq_getElem?_getD, List.getD_eq_getElem?_getD, List.getElem?_eq_getElem (by omega), List.getElem?_eq_getElem (by omega)] at e
  exact (List.getElem?_inj (by omega) nd).mp (by rw [List.getElem?_eq_getElem (by omega), List.getElem?_eq_getElem (by omega)]; exact congrArg some e)
theorem pre_map {n k : Nat} {o r : List Nat} (ho : o.Perm (List.range n)) (h : Pre n k r) : Pre n k (r.map fun x => o.getD x 0) := by
  obtain ⟨h1, h2, h3⟩ := h
  refine ⟨by simpa using h1, List.pairwise_map.mpr (h2.imp_of_mem fun {a b} ha hb ne e => ne (perm_inj ho (h3 a ha) (h3 b hb) e)), fun x hx => ?_⟩
  obtain ⟨y, hy, rfl⟩ := List.mem_map.mp hx
  exact perm_getD ho (h3 y hy)
theorem bits_map {n : Nat} {o : List Nat} {ts ts' : List (Nat × Nat)} (e : IsRen n o ts ts') : ∀ {k : Nat} {r : List Nat}, Pre n k r → bitsR ts' r = bitsR ts (r.map fun x => o.getD x 0)
  | 0, r, h => by rw [List.eq_nil_of_length_eq_zero h.1]; rfl
  | k + 1, r, h => by
    obtain ⟨r', t, rfl⟩ := pre_split h
    obtain ⟨q1, q2, q3⟩ := pre_snoc.mp h
    rw [List.map_append, List.map_singleton, bitsR_snoc, bitsR_snoc, bits_map e q1]
    congr 1
    unfold col
    rw [List.map_map]
    refine List.map_congr_left fun x hx => ?_
    simp only [Function.comp]
    rw [e.eq t x q3 (q1.2.2 x hx)]
theorem first_ren {n : Nat} {o : List Nat} {ts ts' us : List (Nat × Nat)} (ho : o.Perm (List.range n)) (e : IsRen n o ts ts') (h : First n ts' us) : First n ts us := by
  obtain ⟨r, b, q⟩ := h
  refine ⟨r.map fun x => o.getD x 0, ⟨pre_map ho b.1, fun s hs => ?_⟩, q.ok, fun i j hi hj => ?_⟩
  · -- s is the image of one
    have inv : ∀ x, x < n → ∃ y, y < n ∧ o.getD y 0 = x := fun x hx => by
      have hl : o.length = n := by simpa using ho.length_eq
      obtain ⟨y, hy, e⟩ := List.getElem_of_mem (ho.mem_iff.mpr (List.mem_range.mpr hx))
      exact ⟨y, by omega, by rw [List.getD_eq_getElem?_getD, List.getElem?_eq_getElem hy]; exact e⟩
    have : ∃ s', Pre n n s' ∧ s'.map (fun x => o.getD x 0) = s := by
      have : ∀ l : List Nat, (∀ x ∈ l, x < n) → ∃ l' : List Nat, (∀ x ∈ l', x < n) ∧ l'.map (fun x => o.getD x 0) = l := by
        intro l
        induction l with
        | nil => exact fun _ => ⟨[], by simp, rfl⟩
        | cons a l ih =>
          intro h
          obtain ⟨l', h1, h2⟩ := ih fun x hx => h x (List.mem_cons_of_mem _ hx)
          obtain ⟨y, h3, h4⟩ := inv a (h a List.mem_cons_self)
          exact ⟨y :: l', fun x hx => (List.mem_cons.mp hx).elim (fun e => by rw [e]; exact h3) (h1 x), by rw [List.map_cons, h2, h4]⟩
      obtain ⟨s', h1, h2⟩ := this s hs.2.2
      refine ⟨s', ⟨by rw [← hs.1, ← h2, List.length_map], ?_, h1⟩, h2⟩
      have nd := hs.2.1
      rw [← h2] at nd
      exact (List.pairwise_map.mp nd).imp fun {a b} z e => z (by rw [e])
    obtain ⟨s', h1, rfl⟩ := this
    rw [← bits_map e b.1, ← bits_map e h1]
    exact b.2 _ h1
  · have hr := b.1
    rw [getD_map _ _ _ (by rw [hr.1]; exact hi), getD_map _ _ _ (by rw [hr.1]; exact hj), q.eq i j hi hj]
    have hp := pre_perm.mp hr
    exact e.eq _ _ (perm_getD hp hi) (perm_getD hp hj)
end K87

set_option Elab.async false
set_option linter.all false
set_option maxRecDepth 100000
set_option maxHeartbeats 1000000
/-! data whose text is short -/
namespace G
open PySem PySem.Spec PyProof.Rows L2 DC
structure RepN (k j : Nat) (d : PyData) : Prop where
  sh : d.showable = true
  ln : d.shown.length ≤ k
  dp : d.depth ≤ j
  nd : d.hasDict = false
theorem RepN.mono {k j k' j' : Nat} {d : PyData} (h : RepN k j d) (h1 : k ≤ k') (h2 : j ≤ j') : RepN k' j' d := ⟨h.sh, Nat.le_trans h.ln h1, Nat.le_trans h.dp h2, h.nd⟩
theorem small_text : ∀ n : Fin 16, ((toString ((n : Nat) : Int) : String) : Str).length ≤ 2 := by decide +kernel
theorem small_log : ∀ n : Fin 16, ((n : Nat) : Int).natAbs.log2 < 1920 := by decide +kernel
theorem repN_int {n : Nat} (h : n < 16) : RepN 2 0 (.int (n : Int)) := by
  refine ⟨?_, ?_, ?_, ?_⟩
  · simp only [PyData.showable]
    exact decide_eq_true (small_log ⟨n, h⟩)
  · simp only [PyData.shown]
    exact small_text ⟨n, h⟩
  · simp [PyData.depth]
  · simp [PyData.hasDict]
theorem showableAll_of {xs : List PyData} (h : ∀ x ∈ xs, x.showable = true) : PyData.showableAll xs = true := by
  induction xs with
  | nil => rfl
  | cons a r ih => simp [PyData.showableAll, h a List.mem_cons_self, ih fun x hx => h x (List.mem_cons_of_mem _ hx)]
theorem hasDictAll_of {xs : List PyData} (h : ∀ x ∈ xs, x.hasDict = false) : PyData.hasDictAll xs = false := by
  induction xs with
  | nil => rfl
  | cons a r ih => simp [PyData.hasDictAll, h a List.mem_cons_self, ih fun x hx => h x (List.mem_cons_of_mem _ hx)]
theorem depthAll_of {xs : List PyData} {j : Nat} (h : ∀ x ∈ xs, x.depth ≤ j) : PyData.depthAll xs ≤ j := by
  induction xs with
  | nil => simp [PyData.depthAll]
  | cons a r ih =>
    have := h a List.mem_cons_self
    have := ih fun x hx => h x (List.mem_cons_of_mem _ hx)
    simp only [PyData.depthAll]
    omega
theorem shownAll_len (xs : List PyData) : (PyData.shownAll xs).length = xs.length := by
  induction xs with
  | nil => rfl
  | cons a r ih => simp [PyData.shownAll, ih]
theorem mem_shownAll {xs : List PyData} {t : Str} (h : t ∈ PyData.shownAll xs) : ∃ x ∈ xs, t = x.shown := by
  induction xs with
  | nil => simp [PyData.shownAll] at h
  | cons a r ih =>
    simp only [PyData.shownAll] at h
    rcases List.mem_cons.mp h with rfl | h
    · exact ⟨a, List.mem_cons_self, rfl⟩
    · obtain ⟨x, hx, e⟩ := ih h
      exact ⟨x, List.mem_cons_of_mem _ hx, e⟩
theorem join_le {k : Nat} : ∀ {ts : List Str}, (∀ t ∈ ts, t.length ≤ k) → (Str.join ", " ts).length ≤ (k + 2) * ts.length
  | [], _ => Nat.zero_le _
  | [x], h => by
    have := h x (by simp)
    show x.length ≤ _
    simp
    omega
  | x :: y :: r, h => by
    have ih := join_le (ts := y :: r) fun t ht => h t (List.mem_cons_of_mem _ ht)
    have h1 := h x (by simp)
    show (x ++ ", " ++ Str.join ", " (y :: r)).length ≤ _
    rw [strLen_append, strLen_append]
    have e2 : ((", " : String) : Str).length = 2 := rfl
    rw [e2]
    have e3 : (k + 2) * (x :: y :: r).length = (k + 2) * (y :: r).length + (k + 2) := by
      rw [List.length_cons (a := x), Nat.mul_succ]
    omega
theorem from_le {k : Nat} : ∀ {ts : List Str} {i : Nat} {acc : Str}, (∀ t ∈ ts, t.length ≤ k) → (textFrom i acc ts).length ≤ acc.length + (k + 2) * ts.length
  | [], _, acc, _ => by simp [textFrom]
  | t :: r, i, acc, h => by
    have ih := from_le (ts := r) (i := i + 1) (acc := acc ++ (if i > 0 then ", " else "" : String) ++ t) fun t ht => h t (List.mem_cons_of_mem _ ht)
    have h1 := h t (by simp)
    have e : (acc ++ (if i > 0 then ", " else "" : String) ++ t).length = acc.length + (if i > 0 then 2 else 0) + t.length := by
      rw [strLen_append, strLen_append]
      split <;> rfl
    rw [e] at ih
    have e3 : (k + 2) * (t :: r).length = (k + 2) * r.length + (k + 2) := by rw [List.length_cons, Nat.mul_succ]
    have : (if i > 0 then 2 else 0) ≤ 2 := by split <;> omega
    show (textFrom (i + 1) (acc ++ (if i > 0 then ", " else "" : String) ++ t) r).length ≤ _
    omega
theorem repN_tuple {k j : Nat} {xs : List PyData} (h : ∀ x ∈ xs, RepN k j x) : RepN ((k + 2) * xs.length + 4) (j + 1) (.tuple xs) := by
  refine ⟨?_, ?_, ?_, ?_⟩
  · simp only [PyData.showable]
    exact showableAll_of fun x hx => (h x hx).sh
  · simp only [PyData.shown]
    have := join_le (k := k) (ts := PyData.shownAll xs) fun t ht => by
      obtain ⟨x, hx, rfl⟩ := mem_shownAll ht
      exact (h x hx).ln
    rw [shownAll_len] at this
    unfold tupleText
    rw [strLen_append, strLen_append]
    have e1 : (("(" : String) : Str).length = 1 := rfl
    have e2 : ∀ b : Bool, ((if b = true then ",)" else ")" : String) : Str).length ≤ 2 := by decide
    have e3 := e2 ((PyData.shownAll xs).length == 1)
    omega
  · simp only [PyData.depth]
    have := depthAll_of fun x hx => (h x hx).dp
    omega
  · simp only [PyData.hasDict]
    exact hasDictAll_of fun x hx => (h x hx).nd
theorem repN_list {k j : Nat} {xs : List PyData} (h : ∀ x ∈ xs, RepN k j x) : RepN ((k + 2) * xs.length + 4) (j + 1) (.list xs) := by
  refine ⟨?_, ?_, ?_, ?_⟩
  · simp only [PyData.showable]
    exact showableAll_of fun x hx => (h x hx).sh
  · simp only [PyData.shown]
    have := from_le (k := k) (ts := PyData.shownAll xs) (i := 0) (acc := "[") fun t ht => by
      obtain ⟨x, hx, rfl⟩ := mem_shownAll ht
      exact (h x hx).ln
    rw [shownAll_len] at this
    unfold listText
    rw [strLen_append]
    have e1 : (("[" : String) : Str).length = 1 := rfl
    have e2 : (("]" : String) : Str).length = 1 := rfl
    omega
  · simp only [PyData.depth]
    have := depthAll_of fun x hx => (h x hx).dp
    omega
  · simp only [PyData.hasDict]
    exact hasDictAll_of fun x hx => (h x hx).nd
theorem rep_nats {l : List Nat} (h : ∀ x ∈ l, x < 16) (h2 : l.length ≤ 100) : RepN 404 1 (.tuple (natsD l)) := by
  have := repN_tuple (k := 2) (j := 0) (xs := natsD l) fun x hx => by
    obtain ⟨i, hi, rfl⟩ := List.mem_map.mp hx
    exact repN_int (h i hi)
  rw [natsD_len] at this
  exact this.mono (by omega) (by omega)
theorem rep_tie {p : Nat × Nat} (h1 : p.1 < 16) (h2 : p.2 < 16) : RepN 12 1 (tieD p) := by
  refine (repN_tuple (k := 2) (j := 0) (xs := [.int (p.1 : Int), .int (p.2 : Int)]) fun x hx => ?_).mono (by simp) (by simp)
  rcases List.mem_cons.mp hx with rfl | hx
  · exact repN_int h1
  · rw [List.mem_singleton.mp hx]
    exact repN_int h2
theorem rep_web {n : Nat} {ts : List (Nat × Nat)} (ok : Ok n ts) : RepN 2000 3 (webD n ts) := by
  have n10 := ok.n10
  have few := ok.few
  have h1 : RepN 634 2 (.tuple (ts.map tieD)) := by
    have := repN_tuple (k := 12) (j := 1) (xs := ts.map tieD) fun x hx => by
      obtain ⟨p, hp, rfl⟩ := List.mem_map.mp hx
      have := ok.tie p hp
      exact rep_tie (by omega) (by omega)
    rw [List.length_map] at this
    exact this.mono (by omega) (by omega)
  refine (repN_tuple (k := 634) (j := 2) (xs := [.int (n : Int), .tuple (ts.map tieD)]) fun x hx => ?_).mono (by simp) (by simp)
  rcases List.mem_cons.mp hx with rfl | hx
  · exact (repN_int (by omega)).mono (by decide) (by decide)
  · rw [List.mem_singleton.mp hx]
    exact h1
end G

set_option Elab.async false
set_option linter.all false
set_option maxRecDepth 100000
set_option maxHeartbeats 1000000

namespace G
open PySem PySem.Spec PyProof.Rows L2 DC
/-! Printed by gen.py: what each def asks, as a reading on data. -/
/-! _law_pairs -/
abbrev N__law_pairs : List Str := ["many", "found", "other", "one"]
def lp1__law_pairs : WS := wFor (wRange1 (wCons (wVar 0) (wNil))) (gN 2) (wDrop (wExtA 1 (wLc (wRange1 (wCons (wVar 2) (wNil))) (gN 3) (wYes) (wTup (wCons (wVar 3) (wCons (wVar 2) (wNil)))) [3])))
def w__law_pairs : WS := wSeq (wSet 1 (wLst (wNil)))
  (wSeq (lp1__law_pairs)
  (wRetO 1))
theorem hl__law_pairs : ∀ as Q, (S__law_pairs) as Q → as.length = 1 := by
  intro as Q h
  unfold S__law_pairs at h
  split at h <;> first | rfl | exact h.elim
abbrev vS__law_pairs : Prop := ∀ as Q, (S__law_pairs) as Q → w__law_pairs ⟨fun _ => Q (.fz .none), fun r _ => Q r, fun _ => False, fun _ => False⟩ (entry N__law_pairs as)
/-! _law_shared -/
abbrev N__law_shared : List Str := ["feed", "pairs", "share", "pair"]
def w__law_shared : WS := wSeq (wZ 2 (wSet 2 (wCallF S__law_one 0 (wCons (wLst (wCons (wC (.int 1)) (wCons (wC (.int 2)) (wCons (wC (.int 3)) (wCons (wC (.int 4)) (wCons (wC (.int 5)) (wCons (wC (.int 6)) (wCons (wC (.int 7)) (wNil))))))))) (wNil)))))
  (wRet (wLc (wAny (wVar 1)) (gN 3) (wTest (wOp rdLt (wCallF S__law_draw 0 (wCons (wC (.int 8)) (wNil))) (wVar 2))) (wVar 3) [3]))
theorem hl__law_shared : ∀ fs as Q, (S__law_shared) fs as Q → as.length + 1 = 2 := by
  intro fs as Q h
  unfold S__law_shared at h
  split at h <;> first | rfl | exact h.elim
abbrev vS__law_shared : Prop := ∀ fs as Q, (S__law_shared) fs as Q → ∀ a, w__law_shared ⟨fun _ => False, fun r ρ => ∃ d fs', r.dat = some d ∧ ρ[0]? = some (.bw a fs') ∧ Q d fs', fun _ => False, fun _ => False⟩ (entry N__law_shared (.bw a fs :: as))
/-! _law_stacked_ties -/
abbrev N__law_stacked_ties : List Str := ["feed", "many", "ties", "sides", "thing", "one", "two", "three"]
def lp1__law_stacked_ties : WS := wFor (wRange2 (wCons (wC (.int 3)) (wCons (wVar 1) (wNil)))) (gN 4) (wSeq (wAsgG (wPopAt 3 (wCallF S__law_draw 0 (wCons (wLenV 3) (wNil)))) (gT 3 (gCons' (gN 5) (gCons' (gN 6) (gCons' (gN 7) (gNil'))))))
  (wSeq (wDrop (wExtA 2 (wLst (wCons (wTup (wCons (wVar 5) (wCons (wVar 4) (wNil)))) (wCons (wTup (wCons (wVar 6) (wCons (wVar 4) (wNil)))) (wCons (wTup (wCons (wVar 7) (wCons (wVar 4) (wNil)))) (wNil)))))))
  (wDrop (wExtA 3 (wLst (wCons (wTup (wCons (wVar 5) (wCons (wVar 6) (wCons (wVar 4) (wNil))))) (wCons (wTup (wCons (wVar 5) (wCons (wVar 7) (wCons (wVar 4) (wNil))))) (wCons (wTup (wCons (wVar 6) (wCons (wVar 7) (wCons (wVar 4) (wNil))))) (wNil)))))))))
def w__law_stacked_ties : WS := wSeq (wPar [2, 3] (wRCons (wCallP S__law_pairs (wCons (wCB rdMin2 (wCons (wVar 1) (wCons (wC (.int 3)) (wNil)))) (wNil))) (wRCons (wLst (wCons (wTup (wCons (wC (.int 0)) (wCons (wC (.int 1)) (wCons (wC (.int 2)) (wNil))))) (wCons (wTup (wCons (wC (.int 0)) (wCons (wC (.int 1)) (wCons (wC (.int 2)) (wNil))))) (wNil)))) (wRNil))))
  (wSeq (lp1__law_stacked_ties)
  (wRet (wVar 2)))
theorem hl__law_stacked_ties : ∀ fs as Q, (S__law_stacked_ties) fs as Q → as.length + 1 = 2 := by
  intro fs as Q h
  unfold S__law_stacked_ties at h
  split at h <;> first | rfl | exact h.elim
abbrev vS__law_stacked_ties : Prop := ∀ fs as Q, (S__law_stacked_ties) fs as Q → ∀ a, w__law_stacked_ties ⟨fun _ => False, fun r ρ => ∃ d fs', r.dat = some d ∧ ρ[0]? = some (.bw a fs') ∧ Q d fs', fun _ => False, fun _ => False⟩ (entry N__law_stacked_ties (.bw a fs :: as))
/-! _law_barred_ties -/
abbrev N__law_barred_ties : List Str := ["feed", "many", "ends", "ties", "at", "thing", "one", "other"]
def lp1__law_barred_ties : WS := wFor (wRange2 (wCons (wVar 2) (wCons (wVar 1) (wNil)))) (gN 5) (wSeq (wZ 4 (wSet 4 (wCallF S__law_draw 0 (wCons (wLenV 3) (wNil)))))
  (wSeq (wAsgG (wIxV 3 (wVar 4)) (gT 2 (gCons' (gN 6) (gCons' (gN 7) (gNil')))))
  (wSet 3 (wIf (wTest (wOp rdGt (wCallF S__law_draw 0 (wCons (wC (.int 4)) (wNil))) (wC (.int 0)))) (wCat (wCat (wSl rdSl (wVar 3) (wNo) (wSome (wVar 4))) (wLst (wCons (wTup (wCons (wVar 6) (wCons (wVar 5) (wNil)))) (wCons (wTup (wCons (wVar 5) (wCons (wVar 7) (wNil)))) (wNil))))) (wSl rdSl (wVar 3) (wSome (wOp rdAdd (wVar 4) (wC (.int 1)))) (wNo))) (wCat (wVar 3) (wLst (wCons (wTup (wCons (wVar 6) (wCons (wVar 5) (wNil)))) (wNil))))))))
def tl4__law_barred_ties : WS := wRet (wOp rdAdd (wVar 3) (wIf (wTest (wOp (rdEq false) (wCallF S__law_draw 0 (wCons (wC (.int 3)) (wNil))) (wC (.int 0)))) (wSl rdSl (wCallP S__law_pairs (wCons (wVar 1) (wNil))) (wNo) (wSome (wCallF S__law_draw 0 (wCons (wC (.int 4)) (wNil))))) (wLst (wNil))))
def tl3__law_barred_ties : WS := wSeq (wIfS (wTest (wOp (rdEq false) (wCallF S__law_draw 0 (wCons (wC (.int 3)) (wNil))) (wC (.int 0)))) (wDrop (wPopAt 3 (wCallF S__law_draw 0 (wCons (wLenV 3) (wNil))))) (wNext))
  tl4__law_barred_ties
def tl2__law_barred_ties : WS := wSeq (lp1__law_barred_ties)
  tl3__law_barred_ties
def tl1__law_barred_ties : WS := wSeq (wSet 3 (wIf (wTest (wOp (rdEq false) (wVar 2) (wC (.int 5)))) (wCallP S__law_pairs (wCons (wC (.int 5)) (wNil))) (wLc (wRange1 (wCons (wC (.int 9)) (wNil))) (gN 4) (wYes) (wTup (wCons (wOp rdFdiv (wVar 4) (wC (.int 3))) (wCons (wOp rdAdd (wC (.int 3)) (wOp rdMod (wCB rdInt (wCons (wVar 4) (wNil))) (wC (.int 3)))) (wNil)))) [4])))
  tl2__law_barred_ties
def w__law_barred_ties : WS := wSeq (wZ 2 (wSet 2 (wIf (wOr (wTest (wOp rdLt (wVar 1) (wC (.int 6)))) (wTest (wOp (rdEq false) (wCallF S__law_draw 0 (wCons (wC (.int 2)) (wNil))) (wC (.int 0))))) (wC (.int 5)) (wC (.int 6)))))
  tl1__law_barred_ties
theorem hl__law_barred_ties : ∀ fs as Q, (S__law_barred_ties) fs as Q → as.length + 1 = 2 := by
  intro fs as Q h
  unfold S__law_barred_ties at h
  split at h <;> first | rfl | exact h.elim
abbrev vS__law_barred_ties : Prop := ∀ fs as Q, (S__law_barred_ties) fs as Q → ∀ a, w__law_barred_ties ⟨fun _ => False, fun r ρ => ∃ d fs', r.dat = some d ∧ ρ[0]? = some (.bw a fs') ∧ Q d fs', fun _ => False, fun _ => False⟩ (entry N__law_barred_ties (.bw a fs :: as))
/-! _law_cube -/
abbrev N__law_cube : List Str := ["feed", "many", "size", "corners", "turn", "corner", "at", "ties", "one", "other", "a", "b"]
def lp1__law_cube : WS := wFor (wRange1 (wCons (wOp rdMul (wC (.int 4)) (wVar 1)) (wNil))) (gN 4) (wSeq (wZ 6 (wZ 5 (wPar [5, 6] (wRCons (wHold 3 (wCallF S__law_one 0 (wCons (wVar 3) (wNil)))) (wRCons (wCallF S__law_draw 0 (wCons (wVar 2) (wNil))) (wRNil))))))
  (wSeq (wSet 5 (wOp rdAdd (wOp rdAdd (wSl rdSl (wVar 5) (wNo) (wSome (wVar 6))) (wTup (wCons (wOp rdSub (wC (.int 1)) (wOp rdIx (wVar 5) (wVar 6))) (wNil)))) (wSl rdSl (wVar 5) (wSome (wOp rdAdd (wVar 6) (wC (.int 1)))) (wNo))))
  (wIfS (wAnd (wTest (wOp rdLt (wLenV 3) (wVar 1))) (wTest (wHold 3 (wOp (rdInX true) (wVar 5) (wVar 3))))) (wDrop (wAppend 3 (wVar 5))) (wNext))))
def w__law_cube : WS := wSeq (wZ 2 (wPar [2, 3] (wRCons (wCallF S__law_one 0 (wCons (wLst (wCons (wC (.int 2)) (wCons (wC (.int 3)) (wCons (wC (.int 3)) (wCons (wC (.int 4)) (wCons (wC (.int 9)) (wNil))))))) (wNil))) (wRCons (wLst (wCons (wOp rdRepT (wTup (wCons (wC (.int 0)) (wNil))) (wC (.int 9))) (wNil))) (wRNil)))))
  (wSeq (lp1__law_cube)
  (wSeq (wZ 7 (wSet 7 (wLc (wAny (wCallP S__law_pairs (wCons (wLenV 3) (wNil)))) (gT 2 (gCons' (gN 8) (gCons' (gN 9) (gNil')))) (wTest (wOp (rdEq false) (wCB rdLen (wCons (wLc (wZip (wCons (wIxV 3 (wVar 8)) (wCons (wIxV 3 (wVar 9)) (wNil)))) (gT 2 (gCons' (gN 10) (gCons' (gN 11) (gNil')))) (wTest (wOp (rdEq true) (wVar 10) (wVar 11))) (wC (.int 1)) [10, 11]) (wNil))) (wC (.int 1)))) (wTup (wCons (wVar 8) (wCons (wVar 9) (wNil)))) [8, 9])))
  (wRet (wTup (wCons (wLenV 3) (wCons (wVar 7) (wNil)))))))
theorem hl__law_cube : ∀ fs as Q, (S__law_cube) fs as Q → as.length + 1 = 2 := by
  intro fs as Q h
  unfold S__law_cube at h
  split at h <;> first | rfl | exact h.elim
abbrev vS__law_cube : Prop := ∀ fs as Q, (S__law_cube) fs as Q → ∀ a, w__law_cube ⟨fun _ => False, fun r ρ => ∃ d fs', r.dat = some d ∧ ρ[0]? = some (.bw a fs') ∧ Q d fs', fun _ => False, fun _ => False⟩ (entry N__law_cube (.bw a fs :: as))
/-! _law_web -/
abbrev N__law_web : List Str := ["feed", "most", "many", "way", "pairs", "ties", "at", "pair", "side", "thing", "gone", "cut", "both", "wide", "names", "one", "other"]
def tl5__law_web : WS := wRet (wCallP S__law_made (wCons (wVar 2) (wCons (wLc (wAny (wVar 5)) (gT 2 (gCons' (gN 15) (gCons' (gN 16) (gNil')))) (wYes) (wTup (wCons (wOp rdIx (wVar 14) (wVar 15)) (wCons (wOp rdIx (wVar 14) (wVar 16)) (wNil)))) [15, 16]) (wNil))))
def tl4__law_web : WS := wSeq (wZ 14 (wSet 14 (wCallF S__law_mixed 0 (wCons (wListRg1 (wVar 2)) (wNil)))))
  tl5__law_web
def tl3__law_web : WS := wSeq (wIfS (wTest (wOp (rdEq false) (wVar 3) (wC (.int 0)))) (wZ 5 (wSet 5 (wCallF S__law_tree_ties 0 (wCons (wVar 2) (wNil))))) (wIfS (wTest (wOp (rdEq false) (wVar 3) (wC (.int 1)))) (wZ 5 (wSet 5 (wOp rdAdd (wLc (wRange1 (wCons (wVar 2) (wNil))) (gN 6) (wYes) (wTup (wCons (wOp rdMod (wCB rdInt (wCons (wOp rdAdd (wVar 6) (wC (.int 1))) (wNil))) (wVar 2)) (wCons (wVar 6) (wNil)))) [6]) (wLc (wAny (wVar 4)) (gN 7) (wTest (wOp (rdEq false) (wCallF S__law_draw 0 (wCons (wC (.int 6)) (wNil))) (wC (.int 0)))) (wVar 7) [7])))) (wIfS (wTest (wOp rdLt (wVar 3) (wC (.int 4)))) (wZ 5 (wSet 5 (wLc (wAny (wCallF S__law_stacked_ties 0 (wCons (wVar 2) (wNil)))) (gN 7) (wOr (wTest (wOp (rdEq false) (wVar 3) (wC (.int 3)))) (wTest (wOp rdGt (wCallF S__law_draw 0 (wCons (wC (.int 5)) (wNil))) (wC (.int 0))))) (wVar 7) [7]))) (wIfS (wTest (wOp (rdEq false) (wVar 3) (wC (.int 4)))) (wSeq (wZ 8 (wSet 8 (wLc (wRange1 (wCons (wVar 2) (wNil))) (gN 9) (wYes) (wCallF S__law_draw 0 (wCons (wC (.int 2)) (wNil))) [9])))
  (wZ 5 (wSet 5 (wLc (wAny (wVar 4)) (gN 7) (wAnd (wTest (wOp (rdEq true) (wOp rdIx (wVar 8) (wOp rdIx (wVar 7) (wC (.int 0)))) (wOp rdIx (wVar 8) (wOp rdIx (wVar 7) (wC (.int 1)))))) (wTest (wOp rdGt (wCallF S__law_draw 0 (wCons (wC (.int 4)) (wNil))) (wC (.int 0))))) (wVar 7) [7])))) (wIfS (wAnd (wTest (wOp (rdEq false) (wVar 3) (wC (.int 5)))) (wTest (wOp rdGt (wVar 2) (wC (.int 4))))) (wZ 5 (wSet 5 (wCallF S__law_barred_ties 0 (wCons (wVar 2) (wNil))))) (wIfS (wTest (wOp (rdEq false) (wVar 3) (wC (.int 6)))) (wSeq (wZ 10 (wSet 10 (wCallF S__law_tree_ties 0 (wCons (wVar 2) (wNil)))))
  (wZ 5 (wSet 5 (wLc (wAny (wVar 4)) (gN 7) (wTest (wOp (rdInX true) (wVar 7) (wVar 10))) (wVar 7) [7])))) (wIfS (wTest (wOp (rdEq false) (wVar 3) (wC (.int 7)))) (wSeq (wZ 12 (wZ 11 (wPar [11, 12] (wRCons (wCallF S__law_draw 0 (wCons (wOp rdAdd (wVar 2) (wC (.int 1))) (wNil))) (wRCons (wCallF S__law_draw 0 (wCons (wC (.int 2)) (wNil))) (wRNil))))))
  (wZ 5 (wSet 5 (wLc (wAny (wVar 4)) (gN 7) (wTest (wIf (wTest (wOp (rdEq true) (wOp rdLt (wOp rdIx (wVar 7) (wC (.int 0))) (wVar 11)) (wOp rdLt (wOp rdIx (wVar 7) (wC (.int 1))) (wVar 11)))) (wOp (rdEq false) (wVar 12) (wC (.int 1))) (wOp (rdEq false) (wCallF S__law_draw 0 (wCons (wC (.int 2)) (wNil))) (wC (.int 0))))) (wVar 7) [7])))) (wIfS (wTest (wOp (rdEq false) (wVar 3) (wC (.int 8)))) (wSeq (wSet 13 (wOp rdAdd (wC (.int 2)) (wCallF S__law_draw 0 (wCons (wC (.int 3)) (wNil)))))
  (wZ 5 (wSet 5 (wLc (wAny (wVar 4)) (gN 7) (wOr (wTest (wOp (rdEq false) (wOp rdIx (wVar 7) (wC (.int 1))) (wOp rdAdd (wOp rdIx (wVar 7) (wC (.int 0))) (wVar 13)))) (wAnd (wTest (wOp (rdEq false) (wOp rdIx (wVar 7) (wC (.int 1))) (wOp rdAdd (wOp rdIx (wVar 7) (wC (.int 0))) (wC (.int 1))))) (wTest (wOp rdGt (wOp rdMod (wCB rdInt (wCons (wOp rdIx (wVar 7) (wC (.int 1))) (wNil))) (wVar 13)) (wC (.int 0)))))) (wVar 7) [7])))) (wIfS (wTest (wOp (rdEq false) (wVar 3) (wC (.int 9)))) (wAsgG (wCallF S__law_cube 0 (wCons (wVar 2) (wNil))) (gT 2 (gCons' (gN 2) (gCons' (gN 5) (gNil'))))) (wNext))))))))))
  tl4__law_web
def tl2__law_web : WS := wSeq (wZ 5 (wSet 5 (wCallF S__law_shared 0 (wCons (wVar 4) (wNil)))))
  tl3__law_web
def tl1__law_web : WS := wSeq (wZ 4 (wSet 4 (wCallP S__law_pairs (wCons (wVar 2) (wNil)))))
  tl2__law_web
def w__law_web : WS := wSeq (wZ 3 (wZ 2 (wPar [2, 3] (wRCons (wCallF S__law_one 0 (wCons (wLst (wCons (wVar 1) (wCons (wVar 1) (wCons (wCB rdMax2 (wCons (wC (.int 0)) (wCons (wOp rdSub (wVar 1) (wC (.int 1))) (wNil)))) (wCons (wCB rdMin2 (wCons (wVar 1) (wCons (wC (.int 5)) (wNil)))) (wCons (wCallF S__law_draw 0 (wCons (wOp rdAdd (wVar 1) (wC (.int 1))) (wNil))) (wNil))))))) (wNil))) (wRCons (wCallF S__law_draw 0 (wCons (wC (.int 12)) (wNil))) (wRNil))))))
  tl1__law_web
theorem hl__law_web : ∀ fs as Q, (S__law_web) fs as Q → as.length + 1 = 2 := by
  intro fs as Q h
  unfold S__law_web at h
  split at h <;> first | rfl | exact h.elim
abbrev vS__law_web : Prop := ∀ fs as Q, (S__law_web) fs as Q → ∀ a, w__law_web ⟨fun _ => False, fun r ρ => ∃ d fs', r.dat = some d ∧ ρ[0]? = some (.bw a fs') ∧ Q d fs', fun _ => False, fun _ => False⟩ (entry N__law_web (.bw a fs :: as))
end G

set_option Elab.async false
set_option linter.all false
set_option maxRecDepth 100000
set_option maxHeartbeats 1000000
namespace G
open PySem PySem.Spec PyProof.Rows L2 DC
theorem pairsL_succ (n : Nat) : pairsL (n + 1) = pairsL n ++ (List.range n).map fun i => (i, n) := by
  unfold pairsL
  rw [List.range_succ, List.flatMap_append, List.flatMap_singleton]
theorem pairsL_len : ∀ n, (pairsL n).length = n * (n - 1) / 2
  | 0 => rfl
  | n + 1 => by
    rw [pairsL_succ, List.length_append, pairsL_len n, List.length_map, List.length_range]
    cases n with
    | zero => rfl
    | succ k =>
      simp only [Nat.add_sub_cancel]
      have : (k + 1 + 1) * (k + 1) = (k + 1) * k + 2 * (k + 1) := by rw [Nat.add_mul (k + 1) 1 (k + 1), Nat.mul_add (k + 1) k 1]; omega
      rw [this, Nat.add_mul_div_left _ _ (by decide)]
theorem pairsL_small {n : Nat} (h : n ≤ 10) : (pairsL n).length ≤ 45 := by
  rw [pairsL_len]
  have : ∀ m : Fin 11, m.val * (m.val - 1) / 2 ≤ 45 := by decide
  exact this ⟨n, by omega⟩
theorem mem_pairsL {n : Nat} {p : Nat × Nat} : p ∈ pairsL n ↔ p.1 < p.2 ∧ p.2 < n := by
  unfold pairsL
  simp only [List.mem_flatMap, List.mem_range, List.mem_map]
  constructor
  · rintro ⟨o, ho, i, hi, rfl⟩; exact ⟨hi, ho⟩
  · rintro ⟨h1, h2⟩; exact ⟨p.2, h2, p.1, h1, rfl⟩
theorem wi_pairs {n : Nat} : Wi n (pairsL n) := fun p hp => by
  have := mem_pairsL.mp hp
  omega
theorem Wi.sub {n : Nat} {E E' : List (Nat × Nat)} (h : Wi n E) (s : E'.Sublist E) : Wi n E' := fun p hp => h p (s.subset hp)
/-- some of some things are kept -/
theorem lcD_filt {α : Type} {wg : WG} {wt : WT} {we : WE} {vs : List Nat} {Q : Rs → List Sl → Prop} {ρ : List Sl} (enc : α → PyData) {xs : List α} (J : Nat → List Sl → Prop) (h0 : J 0 ρ)
    (hs : ∀ i a ρ, xs[i]? = some a → J i ρ → ∀ N : Option PyData → List Sl → Prop, (∀ (b : Bool) ρ', J (i + 1) ρ' → N (if b = true then some (enc a) else none) ρ') → wg (enc a) (wipeS ρ vs) fun ρ2 => wt ρ2 fun b ρ3 =>
      if b = true then we ρ3 fun x ρ4 => match x.dat with
        | some e => N (some e) (backS ρ ρ4 vs)
        | none => False
      else N none (backS ρ ρ3 vs))
    (hd : ∀ ys ρ, List.Sublist ys xs → J xs.length ρ → Q (.nl (ys.map enc)) ρ) : lcD wg wt we vs Q (xs.map enc) [] ρ := by
  refine lcD_inv (fun i acc ρ => ∃ ys : List α, ys.Sublist (xs.take i) ∧ acc = ys.map enc ∧ J i ρ) ⟨[], by simp, rfl, h0⟩ ?_ ?_
  · rintro i d acc ρ hd ⟨ys, s, rfl, hj⟩ N hN
    rw [List.getElem?_map] at hd
    cases e : xs[i]? with
    | none => rw [e] at hd; cases hd
    | some a =>
      rw [e] at hd
      cases hd
      have et : xs.take (i + 1) = xs.take i ++ [a] := by
        rw [List.take_add_one, e]
        rfl
      refine hs i a ρ e hj N fun b ρ' hj' => hN _ _ ?_
      cases b with
      | true => exact ⟨ys ++ [a], by rw [et]; exact s.append (List.Sublist.refl _), by simp, hj'⟩
      | false => exact ⟨ys, by rw [et]; exact s.trans (List.sublist_append_left _ _), by simp, hj'⟩
  · rintro acc ρ ⟨ys, s, rfl, hj⟩
    rw [List.length_map] at s hj
    rw [List.take_length] at s
    exact hd ys ρ s hj
theorem vc__law_pairs : vS__law_pairs := by
  intro as Q h
  unfold S__law_pairs at h
  split at h
  · obtain ⟨n, rfl, hn, h⟩ := h
    simp [w__law_pairs, lp1__law_pairs]
    refine ⟨by omega, forD_inv (fun i ρ => ∃ x, ρ = [.fz (.int (n : Int)), .ow ((pairsL i).map tieD), x, .un]) ⟨_, rfl⟩ ?_ ?_⟩
    · rintro i d ρ hd ⟨x, rfl⟩ N hN
      have hi : i < n := by
        have := (List.getElem?_eq_some_iff.mp hd).1
        simpa using this
      have hd' : d = .int (i : Int) := by
        rw [List.getElem?_map, List.getElem?_range (by omega)] at hd
        simpa using (Option.some.inj hd).symm
      subst hd'
      simp
      refine ⟨by omega, by omega, lcD_map (fun j : Nat => .int (j : Int)) (fun j => some (tieD (j, i))) ?_ ?_⟩
      · intro j hj
        intro N hN
        simp
        simpa [tieD] using hN
      · simp
        have hl : (pairsL i).length + i ≤ 10000000 := by
          rw [pairsL_len]
          have : i * (i - 1) ≤ 1000 * 1000 := Nat.mul_le_mul (by omega) (by omega)
          omega
        refine ⟨hl, hN _ ⟨.fz (.int (i : Int)), ?_⟩⟩
        rw [pairsL_succ]
        simp
    · rintro ρ ⟨x, rfl⟩
      simp
      simpa using h
  · exact h.elim
theorem vc__law_shared : vS__law_shared := by
  intro fs as Q h a
  unfold S__law_shared at h
  split at h
  · obtain ⟨B, ts, hf, rfl, hl, hB, h⟩ := h
    simp [w__law_shared, S__law_one, S__law_draw]
    refine ⟨B, hf, by omega, fun sh fs1 hsh hf1 => ?_⟩
    have : ∃ s : Int, sh = .int s := by rcases hsh with rfl | rfl | rfl | rfl | rfl | rfl | rfl <;> exact ⟨_, rfl⟩
    obtain ⟨s, rfl⟩ := this
    refine ⟨hl, lcD_filt tieD (fun i ρ => ∃ fs, Fd (B + 1 + i) fs ∧ ρ = [.bw a fs, .fz (.list (ts.map tieD)), .fz (.int s), .un]) ⟨_, hf1, rfl⟩ ?_ ?_⟩
    · rintro i p ρ hp ⟨fs2, hf2, rfl⟩ N hN
      have hi := (List.getElem?_eq_some_iff.mp hp).1
      simp
      refine ⟨_, hf2, by omega, by omega, by omega, fun r fs3 hr hf3 => ?_⟩
      have := fun b => hN b _ ⟨fs3, hf3, rfl⟩
      by_cases c : (r : Int) < s
      · simpa [c] using this true
      · simpa [c] using this false
    · rintro ys ρ s ⟨fs2, hf2, rfl⟩
      simpa using h _ _ s hf2
  · exact h.elim
end G

set_option Elab.async false
set_option linter.all false
set_option maxRecDepth 100000
set_option maxHeartbeats 1000000
namespace G
open PySem PySem.Spec PyProof.Rows L2 DC
theorem cutP_to {α : Type} (l : List α) (r : Nat) (h : r ≤ l.length) : cutP l none (some (r : Int)) = l.take r := by
  unfold cutP
  rw [HT.sIx_nat]
  show (l.drop 0).take (min r l.length - 0) = _
  rw [List.drop_zero, Nat.sub_zero, Nat.min_eq_left h]
theorem cutP_from {α : Type} (l : List α) (r : Nat) (h : r < l.length) : cutP l (some ((r : Int) + 1)) none = l.drop (r + 1) := by
  rw [show ((r : Int) + 1) = ((r + 1 : Nat) : Int) by omega, cutP_drop _ _ (by omega)]
theorem Fd.fl {B : Nat} {fs : List PyData} (h : Fd B fs) : flDs fs = true := by
  obtain ⟨x, y, z, rfl, _⟩ := h
  rfl
theorem fl_slots {B : Nat} {fs : List PyData} {a : Addr} {x3 x4 x5 x6 x7 x8 x9 x10 x11 : Sl} {n s : Int} {ρ0 : List Sl} (hf : Fd B fs) (z4 : flS x4) (z5 : flS x5) (z6 : flS x6) (z7 : flS x7) (z8 : flS x8) (z9 : flS x9) (z10 : flS x10) (z11 : flS x11) :
    ∀ (j : Nat) (t : Sl), ¬ j = 3 → [Sl.bw a fs, .fz (.int n), .fz (.int s), x3, x4, x5, x6, x7, x8, x9, x10, x11][j]? = some t → flS t ∨ (¬ Owned t ∧ ρ0[j]? = some t) := by
  intro j t hj e
  refine .inl ?_
  match j, hj, e with
  | 0, _, e => cases e; exact hf.fl
  | 1, _, e => cases e; rfl
  | 2, _, e => cases e; rfl
  | 3, hj, _ => exact absurd rfl hj
  | 4, _, e => cases e; exact z4
  | 5, _, e => cases e; exact z5
  | 6, _, e => cases e; exact z6
  | 7, _, e => cases e; exact z7
  | 8, _, e => cases e; exact z8
  | 9, _, e => cases e; exact z9
  | 10, _, e => cases e; exact z10
  | 11, _, e => cases e; exact z11
  | j + 12, _, e => simp at e
def corD (c : List Int) : PyData := .tuple (c.map .int)
theorem cor_pl (c : List Int) : plD (corD c) = true := by
  have : ∀ d ∈ c.map PyData.int, plD d = true := fun d hd => by
    obtain ⟨i, _, rfl⟩ := List.mem_map.mp hd
    rfl
  simpa [corD, plD] using plDs_iff.mpr this
theorem cor_fl (c : List Int) : flD (corD c) = true := by
  have : ∀ d ∈ c.map PyData.int, flD d = true := fun d hd => by
    obtain ⟨i, _, rfl⟩ := List.mem_map.mp hd
    rfl
  unfold corD
  rw [flD]
  exact flDs_iff.mpr this
theorem cor_depth (c : List Int) : (corD c).depth ≤ 60 := by
  have := PySem.W.depth_ints c
  unfold corD
  simp [PyData.depth]
  omega
theorem vc__law_cube : vS__law_cube := by
  intro fs as Q h a
  unfold S__law_cube at h
  split at h
  · obtain ⟨B, n, hf, rfl, hn, hB, h⟩ := h
    simp [w__law_cube, S__law_one]
    refine ⟨B, hf, by omega, fun sz fs1 hsz hf1 => ?_⟩
    have : ∃ s : Nat, sz = .int s ∧ 0 < s ∧ s ≤ 9 := by rcases hsz with rfl | rfl | rfl | rfl <;> first | exact ⟨2, rfl, by decide, by decide⟩ | exact ⟨3, rfl, by decide, by decide⟩ | exact ⟨4, rfl, by decide, by decide⟩ | exact ⟨9, rfl, by decide, by decide⟩
    obtain ⟨s, rfl, s0, s9⟩ := this
    simp [lp1__law_cube]
    refine ⟨mulL (by decide), by omega, ?_⟩
    refine forD_inv (fun i ρ => ∃ (C : List (List Int)) (fs : List PyData) (x4 x5 x6 : Sl), C ≠ [] ∧ C.length ≤ max 1 n ∧ (∀ c ∈ C, c.length = 9) ∧ Fd (B + 1 + 2 * i) fs ∧ flS x4 ∧ flS x5 ∧ flS x6 ∧
      ρ = [.bw a fs, .fz (.int (n : Int)), .fz (.int (s : Int)), .ow (C.map corD), x4, x5, x6, .un, .un, .un, .un, .un]) ⟨[List.replicate 9 0], fs1, .un, .un, .un, by simp, by simp; omega, by simp, hf1, trivial, trivial, trivial, rfl⟩ ?_ ?_
    · rintro i d ρ hd ⟨C, fs2, x4, x5, x6, hC0, hCl, hC9, hf2, z4, z5, z6, rfl⟩ N hN
      have hi : i < 4 * n := by
        have := (List.getElem?_eq_some_iff.mp hd).1
        simp at this
        omega
      have hd' : d = .int ((i : Nat) : Int) := by
        rw [List.getElem?_map, List.getElem?_range (by omega)] at hd
        simpa using (Option.some.inj hd).symm
      subst hd'
      simp [S__law_one, S__law_draw]
      refine ⟨_, hf2, hC0, by omega, by omega, fun d fs3 c hc ed hf3 => ?_⟩
      subst ed
      have h9 := hC9 c hc
      refine ⟨by simp [corD, flD], fl_slots hf3 rfl z5 z6 trivial trivial trivial trivial trivial, _, hf3, s0, by omega, by omega, fun r fs4 hr hf4 => ?_⟩
      have hr' : r < c.length := by omega
      have e1 : (c.map PyData.int)[r]? = some (.int c[r]) := by rw [List.getElem?_map, List.getElem?_eq_getElem hr']; rfl
      have k1 : cutP (c.map PyData.int) none (some (r : Int)) = (c.take r).map .int := by rw [cutP_to _ _ (by rw [List.length_map]; omega), List.map_take]
      have k2 : cutP (c.map PyData.int) (some ((r : Int) + 1)) none = (c.drop (r + 1)).map .int := by rw [cutP_from _ _ (by rw [List.length_map]; omega), List.map_drop]
      simp [corD, atI_n, e1, k1, k2]
      refine ⟨by omega, by omega, ?_⟩
      have e5 : PyData.tuple (List.take r (List.map PyData.int c) ++ PyData.int (1 - c[r]) :: List.drop (r + 1) (List.map PyData.int c)) = corD (c.take r ++ (1 - c[r]) :: c.drop (r + 1)) := by
        simp [corD]
      rw [e5]
      have l5 : (c.take r ++ (1 - c[r]) :: c.drop (r + 1)).length = 9 := by simp; omega
      generalize c.take r ++ (1 - c[r]) :: c.drop (r + 1) = nc at l5
      have f5 := cor_fl nc
      by_cases c5 : C.length < n
      · rw [if_pos c5]
        refine ⟨⟨cor_pl nc, plDs_iff.mpr fun d hd => by obtain ⟨x, _, rfl⟩ := List.mem_map.mp hd; exact cor_pl x, cor_depth nc⟩, rfl, fl_slots hf4 rfl f5 rfl trivial trivial trivial trivial trivial, ?_⟩
        split
        · exact hN _ ⟨C, fs4, .fz (.int ((i : Nat) : Int)), .fz (corD nc), .fz (.int ((r : Nat) : Int)), hC0, hCl, hC9, hf4, rfl, f5, rfl, rfl⟩
        · refine ⟨by omega, hN _ ⟨C ++ [nc], fs4, .fz (.int ((i : Nat) : Int)), .fz (corD nc), .fz (.int ((r : Nat) : Int)), by simp, by simp; omega, fun x hx => ?_, hf4, rfl, f5, rfl, by simp⟩⟩
          rcases List.mem_append.mp hx with hx | hx
          · exact hC9 x hx
          · rw [List.mem_singleton.mp hx]; exact l5
      · rw [if_neg c5]
        exact hN _ ⟨C, fs4, .fz (.int ((i : Nat) : Int)), .fz (corD nc), .fz (.int ((r : Nat) : Int)), hC0, hCl, hC9, hf4, rfl, f5, rfl, rfl⟩
    · rintro ρ ⟨C, fs2, x4, x5, x6, hC0, hCl, hC9, hf2, z4, z5, z6, rfl⟩
      simp at hf2
      simp [S__law_pairs]
      have hp : (pairsL C.length).length ≤ 45 := pairsL_small (by omega)
      refine ⟨C.length, rfl, by omega, by omega, ?_⟩
      refine lcD_filt tieD (fun i ρ => ρ = [.bw a fs2, .fz (.int (n : Int)), .fz (.int (s : Int)), .ow (C.map corD), x4, x5, x6, .un, .un, .un, .un, .un]) rfl ?_ ?_
      · rintro i p ρ hp rfl N hN
        have hp := mem_pairsL.mp (List.mem_of_getElem? hp)
        have g1 : (C.map corD)[p.1]? = some (corD (C[p.1]'(by omega))) := by rw [List.getElem?_map, List.getElem?_eq_getElem (by omega)]; rfl
        have g2 : (C.map corD)[p.2]? = some (corD (C[p.2]'(by omega))) := by rw [List.getElem?_map, List.getElem?_eq_getElem (by omega)]; rfl
        have h1 := hC9 _ (List.getElem_mem (show p.1 < C.length by omega))
        generalize C[p.1]'(by omega) = c1 at g1 h1
        generalize C[p.2]'(by omega) = c2 at g2
        simp only [corD] at g1 g2
        simp [tieD, atI_n, g1, g2, corD]
        refine ⟨?_, ?_⟩
        · unfold zipD
          rw [List.length_zipWith, List.length_map]
          omega
        refine lcD_inv (fun i acc ρ => ρ = [.bw a fs2, .fz (.int (n : Int)), .fz (.int (s : Int)), .ow (C.map corD), x4, x5, x6, .un, .fz (.int (p.1 : Int)), .fz (.int (p.2 : Int)), .un, .un]) rfl ?_ ?_
        · rintro j d acc ρ hd rfl N2 hN2
          obtain ⟨y, z, hy, hz, rfl⟩ := zipD_get hd
          rw [List.getElem?_map] at hy hz
          cases q1 : c1[j]? with
          | none => rw [q1] at hy; cases hy
          | some y' =>
            cases q2 : c2[j]? with
            | none => rw [q2] at hz; cases hz
            | some z' =>
              rw [q1] at hy
              rw [q2] at hz
              cases hy
              cases hz
              simp
              split
              · exact hN2 none _ rfl
              · exact hN2 _ _ rfl
        · rintro acc ρ rfl
          simp
          split
          · exact hN true _ rfl
          · exact hN false _ rfl
      · rintro ys ρ sb rfl
        simp
        exact h _ _ _ (List.length_pos_iff.mpr hC0) hCl sb (hf2.up (by omega))
  · exact h.elim
end G

set_option Elab.async false
set_option linter.all false
set_option maxRecDepth 100000
set_option maxHeartbeats 1000000
namespace G
open PySem PySem.Spec PyProof.Rows L2 DC
def trD (t : Nat × Nat × Nat) : PyData := .tuple [.int (t.1 : Int), .int (t.2.1 : Int), .int (t.2.2 : Int)]
theorem vc__law_stacked_ties : vS__law_stacked_ties := by
  intro fs as Q h a
  unfold S__law_stacked_ties at h
  split at h
  · obtain ⟨B, n, hf, rfl, hn, hB, h⟩ := h
    simp [w__law_stacked_ties, S__law_pairs]
    have em : (if (3 : Int) < n then (3 : Int) else n) = ((min n 3 : Nat) : Int) := by split <;> omega
    refine ⟨min n 3, by omega, by omega, ?_⟩
    simp [lp1__law_stacked_ties]
    refine ⟨by omega, ?_⟩
    refine forD_inv (fun i ρ => ∃ (E : List (Nat × Nat)) (S : List (Nat × Nat × Nat)) (fs : List PyData) (x4 x5 x6 x7 : Sl), Wi n E ∧ E.length ≤ 3 + 3 * i ∧ (∀ t ∈ S, t.1 < max n 3 ∧ t.2.1 < max n 3 ∧ t.2.2 < max n 3) ∧ S.length = 2 + 2 * i ∧ Fd (B + i) fs ∧
      ρ = [.bw a fs, .fz (.int (n : Int)), .ow (E.map tieD), .ow (S.map trD), x4, x5, x6, x7]) ⟨pairsL (min n 3), [(0, 1, 2), (0, 1, 2)], fs, _, _, _, _, ?_, ?_, ?_, rfl, hf, rfl⟩ ?_ ?_
    · intro p hp
      have := wi_pairs p hp
      omega
    · have : ∀ m : Fin 4, (pairsL m.val).length ≤ 3 := by decide
      exact this ⟨min n 3, by omega⟩
    · simp
      omega
    · rintro i d ρ hd ⟨E, S, fs2, x4, x5, x6, x7, hE, hEl, hS, hSl, hf2, rfl⟩ N hN
      have hi : i < n - 3 := by
        have := (List.getElem?_eq_some_iff.mp hd).1
        simp at this
        omega
      have hd' : d = .int ((3 + i : Nat) : Int) := by
        rw [List.getElem?_map, List.getElem?_range (by omega)] at hd
        simpa using (Option.some.inj hd).symm
      subst hd'
      simp [S__law_draw]
      refine ⟨_, hf2, by omega, by omega, by omega, fun r fs3 hr hf3 => ?_⟩
      have hr' : r < S.length := by omega
      have e : S[r]? = some S[r] := List.getElem?_eq_getElem hr'
      generalize S[r] = t at e
      have ht := hS t (List.mem_of_getElem? e)
      obtain ⟨t1, t2, t3⟩ := t
      simp at ht
      simp [e, trD]
      have el : (S.map trD).eraseIdx r = (S.eraseIdx r).map trD := by
        rw [List.eraseIdx_eq_take_drop_succ, List.eraseIdx_eq_take_drop_succ, List.map_append, List.map_take, List.map_drop]
      have ell : (S.eraseIdx r).length = S.length - 1 := List.length_eraseIdx_of_lt hr'
      have e3 : (3 : Int) + (i : Int) = ((3 + i : Nat) : Int) := by omega
      rw [el, List.length_map, ell, e3]
      refine ⟨by omega, by omega, by omega, hN _ ⟨E ++ [(t1, 3 + i), (t2, 3 + i), (t3, 3 + i)], S.eraseIdx r ++ [(t1, t2, 3 + i), (t1, t3, 3 + i), (t2, t3, 3 + i)], fs3, .fz (.int ((3 + i : Nat) : Int)), .fz (.int (t1 : Int)), .fz (.int (t2 : Int)), .fz (.int (t3 : Int)), ?_, ?_, ?_, ?_, hf3, ?_⟩⟩
      · intro p hp
        rcases List.mem_append.mp hp with hp | hp
        · exact hE p hp
        · simp at hp
          rcases hp with rfl | rfl | rfl <;> simp <;> omega
      · simp
        omega
      · intro t ht'
        rcases List.mem_append.mp ht' with ht' | ht'
        · exact hS t (List.mem_of_mem_eraseIdx ht')
        · simp at ht'
          rcases ht' with rfl | rfl | rfl <;> simp <;> omega
      · simp [ell]
        omega
      · simp [tieD, trD]
    · rintro ρ ⟨E, S, fs2, x4, x5, x6, x7, hE, hEl, hS, hSl, hf2, rfl⟩
      simp at hEl hf2
      simp
      exact h _ _ hE (by omega) (hf2.up (by omega))
  · exact h.elim
end G

set_option Elab.async false
set_option linter.all false
set_option maxRecDepth 100000
set_option maxHeartbeats 1000000
namespace G
open PySem PySem.Spec PyProof.Rows L2 DC
def BarEnd (n B : Nat) (a : Addr) (D : DEnds) : Prop := ∀ r E fs ρ, Wi n E → E.length ≤ 30 → Fd (B + 30) fs → (r = .fz (.list (E.map tieD)) ∨ r = .nl (E.map tieD)) → D.rt r (.bw a fs :: ρ)
theorem cutP_sub {ds : List PyData} {lo hi : Option Int} : (cutP ds lo hi).Sublist ds := by
  unfold cutP
  first
  | exact (List.take_sublist _ _).trans (List.drop_sublist _ _)
  | exact (List.drop_sublist _ _).trans (List.take_sublist _ _)
theorem sub_map {α : Type} {enc : α → PyData} {xs : List α} {ds : List PyData} (h : ds.Sublist (xs.map enc)) : ∃ ys : List α, ys.Sublist xs ∧ ds = ys.map enc := by
  obtain ⟨ys, h1, h2⟩ := List.sublist_map_iff.mp h
  exact ⟨ys, h1, h2⟩
section
variable {n B e : Nat} {a : Addr} {D : DEnds}
theorem bar4 (hn : n ≤ 10) (hB : B ≤ 800000000) (hD : BarEnd n B a D) {E : List (Nat × Nat)} {fs : List PyData} {x4 x5 x6 x7 : Sl} (hE : Wi n E) (l2 : E.length ≤ 20) (hf2 : Fd (B + 20) fs) :
    tl4__law_barred_ties D [.bw a fs, .fz (.int (n : Int)), .fz (.int (e : Int)), .ow (E.map tieD), x4, x5, x6, x7] := by
  unfold tl4__law_barred_ties
  simp [S__law_draw, S__law_pairs]
  refine ⟨_, hf2, by omega, fun r fs3 hr hf3 => ?_⟩
  by_cases c : r = 0
  · subst c
    simp
    refine ⟨n, rfl, by omega, _, hf3, by omega, fun r2 fs4 hr2 hf4 => ?_⟩
    have s := cutP_sub (ds := (pairsL n).map tieD) (lo := none) (hi := some (r2 : Int))
    have l3 : (cutP ((pairsL n).map tieD) none (some (r2 : Int))).length ≤ 3 := by
      simp [cutP, HT.sIx_nat]
      omega
    obtain ⟨ys, s1, e1⟩ := sub_map s
    rw [e1] at l3 ⊢
    rw [List.length_map] at l3
    refine ⟨by rw [List.length_map]; omega, ?_⟩
    rw [← List.map_append]
    refine hD _ (E ++ ys) fs4 _ (fun p hp => ?_) (by rw [List.length_append]; omega) (hf4.up (by omega)) (.inr rfl)
    rcases List.mem_append.mp hp with hp | hp
    · exact hE p hp
    · exact wi_pairs p (s1.subset hp)
  · simp [c]
    exact ⟨by omega, hD _ E fs3 _ hE (by omega) (hf3.up (by omega)) (.inr rfl)⟩
theorem bar3 (hn : n ≤ 10) (hB : B ≤ 800000000) (hD : BarEnd n B a D) {E : List (Nat × Nat)} {fs : List PyData} {x4 x5 x6 x7 : Sl} (hE : Wi n E) (l1 : 9 ≤ E.length) (l2 : E.length ≤ 20) (hf2 : Fd (B + 15) fs) :
    tl3__law_barred_ties D [.bw a fs, .fz (.int (n : Int)), .fz (.int (e : Int)), .ow (E.map tieD), x4, x5, x6, x7] := by
  unfold tl3__law_barred_ties
  simp [S__law_draw]
  refine ⟨_, hf2, by omega, fun r fs3 hr hf3 => ?_⟩
  by_cases c : r = 0
  · subst c
    simp
    refine ⟨_, hf3, by omega, by omega, by omega, fun r2 fs4 hr2 hf4 => ⟨by omega, ?_⟩⟩
    have hr' : r2 < E.length := by omega
    rw [List.getElem?_eq_getElem hr']
    have el : (E.map tieD).eraseIdx r2 = (E.eraseIdx r2).map tieD := by
      rw [List.eraseIdx_eq_take_drop_succ, List.eraseIdx_eq_take_drop_succ, List.map_append, List.map_take, List.map_drop]
    rw [el]
    exact bar4 hn hB hD (fun p hp => hE p (List.mem_of_mem_eraseIdx hp)) (by rw [List.length_eraseIdx_of_lt hr']; omega) (hf4.up (by omega))
  · simp [c]
    exact bar4 hn hB hD hE l2 (hf3.up (by omega))
theorem bar2 (hn : n ≤ 10) (hB : B ≤ 800000000) (hD : BarEnd n B a D) (he : e = 5 ∨ e = 6) (hen : e ≤ n) {E : List (Nat × Nat)} {fs : List PyData} {x4 : Sl} (hE : Wi e E) (l1 : 9 ≤ E.length) (l2 : E.length ≤ 10) (hf1 : Fd (B + 1) fs) :
    tl2__law_barred_ties D [.bw a fs, .fz (.int (n : Int)), .fz (.int (e : Int)), .ow (E.map tieD), x4, .un, .un, .un] := by
  unfold tl2__law_barred_ties
  simp [lp1__law_barred_ties]
  refine ⟨⟨by omega, by omega⟩, forD_inv (fun i ρ => ∃ (E : List (Nat × Nat)) (fs : List PyData) (x4 x5 x6 x7 : Sl), Wi (e + i) E ∧ 9 ≤ E.length ∧ E.length ≤ 10 + i ∧ Fd (B + 1 + 2 * i) fs ∧
    ρ = [.bw a fs, .fz (.int (n : Int)), .fz (.int (e : Int)), .ow (E.map tieD), x4, x5, x6, x7]) ⟨E, fs, _, _, _, _, hE, l1, l2, hf1, rfl⟩ ?_ ?_⟩
  · rintro i d ρ hd ⟨E, fs2, x4, x5, x6, x7, hE, l1, l2, hf2, rfl⟩ N hN
    have hi : i < n - e := by
      have := (List.getElem?_eq_some_iff.mp hd).1
      simp at this
      omega
    have hd' : d = .int ((e + i : Nat) : Int) := by
      rw [List.getElem?_map, List.getElem?_range (by omega)] at hd
      simpa using (Option.some.inj hd).symm
    subst hd'
    simp [S__law_draw]
    refine ⟨_, hf2, by omega, by omega, by omega, fun r fs3 hr hf3 => ?_⟩
    have hr' : r < E.length := by omega
    have e1 : E[r]? = some E[r] := List.getElem?_eq_getElem hr'
    generalize E[r] = t at e1
    have ht := hE t (List.mem_of_getElem? e1)
    obtain ⟨t1, t2⟩ := t
    simp at ht
    have e2 : (E.map tieD)[r]? = some (tieD (t1, t2)) := by rw [List.getElem?_map, e1]; rfl
    have c1 : cutP (E.map tieD) none (some (r : Int)) = (E.take r).map tieD := by
      unfold cutP
      rw [HT.sIx_nat]
      show ((E.map tieD).drop 0).take (min r (E.map tieD).length - 0) = _
      rw [List.drop_zero, List.length_map, Nat.sub_zero, Nat.min_eq_left (by omega), List.map_take]
    have c2 : cutP (E.map tieD) (some ((r : Int) + 1)) none = (E.drop (r + 1)).map tieD := by
      rw [show ((r : Int) + 1) = ((r + 1 : Nat) : Int) by omega, cutP_drop _ _ (by rw [List.length_map]; omega), List.map_drop]
    have e3 : ((e : Int) + (i : Int)) = ((e + i : Nat) : Int) := by omega
    rw [atI_n, e2, c1, c2, e3]
    simp [tieD]
    refine ⟨_, hf3, by omega, fun r2 fs4 hr2 hf4 => ?_⟩
    split
    · refine ⟨by omega, by omega, hN _ ⟨E.take r ++ (t1, e + i) :: (e + i, t2) :: E.drop (r + 1), fs4, .fz (.int (r : Int)), .fz (.int ((e + i : Nat) : Int)), .fz (.int (t1 : Int)), .fz (.int (t2 : Int)), ?_, ?_, ?_, hf4.up (by omega), ?_⟩⟩
      · intro p hp
        simp only [List.mem_append, List.mem_cons] at hp
        rcases hp with hp | rfl | rfl | hp
        · have := hE p (List.mem_of_mem_take hp); omega
        · simp; omega
        · simp; omega
        · have := hE p (List.mem_of_mem_drop hp); omega
      · simp; omega
      · simp; omega
      · simp [tieD]
    · refine ⟨by omega, hN _ ⟨E ++ [(t1, e + i)], fs4, .fz (.int (r : Int)), .fz (.int ((e + i : Nat) : Int)), .fz (.int (t1 : Int)), .fz (.int (t2 : Int)), ?_, ?_, ?_, hf4.up (by omega), ?_⟩⟩
      · intro p hp
        simp only [List.mem_append, List.mem_singleton] at hp
        rcases hp with hp | rfl
        · have := hE p hp; omega
        · simp; omega
      · simp; omega
      · simp; omega
      · simp [tieD]
  · rintro ρ ⟨E, fs2, x4, x5, x6, x7, hE, l1, l2, hf2, rfl⟩
    simp at hE hf2 l2
    exact bar3 hn hB hD (fun p hp => by have := hE p hp; omega) l1 (by omega) (hf2.up (by omega))
theorem bar1 (hn : n ≤ 10) (hB : B ≤ 800000000) (hD : BarEnd n B a D) (he : e = 5 ∨ e = 6) (hen : e ≤ n) {fs : List PyData} (hf1 : Fd (B + 1) fs) :
    tl1__law_barred_ties D [.bw a fs, .fz (.int (n : Int)), .fz (.int (e : Int)), .un, .un, .un, .un, .un] := by
  unfold tl1__law_barred_ties
  simp
  rcases he with rfl | rfl
  · simp [S__law_pairs]
    exact ⟨5, rfl, by omega, bar2 hn hB hD (.inl rfl) hen (E := pairsL 5) wi_pairs (by decide) (by decide) hf1⟩
  · simp
    refine lcD_map (fun j : Nat => .int (j : Int)) (fun j => some (tieD (j / 3, 3 + j % 3))) ?_ ?_
    · intro j hj N hN
      have hj := List.mem_range.mp hj
      simp
      refine ⟨?_, ?_⟩
      · exact wide_div (b := 64) (by decide) (by omega) (by decide) (by decide)
      · simpa [tieD] using hN
    · simp
      have e1 : (List.range 9).map (fun j => tieD (j / 3, 3 + j % 3)) = ((List.range 9).map fun j => (j / 3, 3 + j % 3)).map tieD := by rw [List.map_map]; rfl
      rw [e1]
      exact bar2 hn hB hD (.inr rfl) hen (by unfold Wi; decide) (by decide) (by decide) hf1
end
theorem vc__law_barred_ties : vS__law_barred_ties := by
  intro fs as Q h a
  unfold S__law_barred_ties at h
  split at h
  · obtain ⟨B, n, hf, rfl, h4, hn, hB, h⟩ := h
    have hD : BarEnd n B a ⟨fun _ => False, fun r ρ => ∃ d fs', r.dat = some d ∧ ρ[0]? = some (.bw a fs') ∧ Q d fs', fun _ => False, fun _ => False⟩ := by
      intro r E fs ρ hE hl hf e
      rcases e with rfl | rfl <;> exact ⟨_, _, rfl, rfl, h _ _ hE hl hf⟩
    generalize (⟨fun _ => False, fun r ρ => ∃ d fs', r.dat = some d ∧ ρ[0]? = some (.bw a fs') ∧ Q d fs', fun _ => False, fun _ => False⟩ : DEnds) = D at hD
    simp [w__law_barred_ties, S__law_draw]
    by_cases c : (n : Int) < 6
    · simp [c]
      exact bar1 hn hB hD (.inl rfl) (by omega) (hf.up (by omega))
    · simp [c]
      refine ⟨B, hf, by omega, fun r fs1 hr hf1 => ?_⟩
      split
      · exact bar1 hn hB hD (.inl rfl) (by omega) hf1
      · exact bar1 hn hB hD (.inr rfl) (by omega) hf1
  · exact h.elim
end G

set_option Elab.async false
set_option linter.all false
set_option maxRecDepth 100000
set_option maxHeartbeats 1000000
namespace G
open PySem PySem.Spec PyProof.Rows L2 DC
def WebEnd (m B : Nat) (a : Addr) (D : DEnds) : Prop := ∀ k ts fs ρ, Ok k ts → k ≤ max 1 m → Fd (B + 500) fs → D.rt (.fz (webD k ts)) (.bw a fs :: ρ)
theorem tree_map (f : Nat → Nat) (k : Nat) : (List.range k).map (fun i => tieD (f i, i + 1)) = ((List.range k).map fun i => (f i, i + 1)).map tieD := by rw [List.map_map]; rfl
theorem tree_wi {f : Nat → Nat} {n : Nat} (h : ∀ i, i < n - 1 → f i < i + 1) : Wi n ((List.range (n - 1)).map fun i => (f i, i + 1)) := fun p hp => by
  obtain ⟨i, hi, rfl⟩ := List.mem_map.mp hp
  have hi := List.mem_range.mp hi
  have := h i hi
  simp only
  omega
theorem nats_at {l : List Nat} {j : Nat} (h : j < l.length) : atI (natsD l) ((j : Nat) : Int) = some (.int (l.getD j 0 : Nat)) := by
  rw [atI_n, natsD_get, List.getD_eq_getElem?_getD, List.getElem?_eq_getElem h]
  rfl
theorem tie_pl (p : Nat × Nat) : plD (tieD p) = true := by simp [tieD, plD, plDs]
theorem tie_depth (p : Nat × Nat) : (tieD p).depth ≤ 60 := by
  simp [tieD, PyData.depth, PyData.depthAll]
section
variable {m n B : Nat} {a : Addr} {D : DEnds}
theorem web5 (hn : n ≤ 10) (hm : n ≤ max 1 m) (hB : B ≤ 700000000) (hD : WebEnd m B a D) {E : List (Nat × Nat)} {ns : List Nat} {fs : List PyData} {x1 x3 x4 x6 x7 x8 x9 x10 x11 x12 x13 : Sl} (hE : Wi n E) (hl : E.length ≤ 63) (hp : ns.Perm (List.range n)) (hf : Fd (B + 400) fs) :
    tl5__law_web D [.bw a fs, x1, .fz (.int (n : Int)), x3, x4, .fz (.list (E.map tieD)), x6, x7, x8, x9, x10, x11, x12, x13, .fz (.list (natsD ns)), .un, .un] := by
  unfold tl5__law_web
  have hnl : ns.length = n := by simpa using hp.length_eq
  have g : ∀ j, j < n → atI (natsD ns) ((j : Nat) : Int) = some (.int (ns.getD j 0 : Nat)) := fun j hj => by
    rw [atI_n, natsD_get, List.getD_eq_getElem?_getD, List.getElem?_eq_getElem (by omega)]
    rfl
  have lt : ∀ j, j < n → ns.getD j 0 < n := fun j hj => by
    rw [List.getD_eq_getElem?_getD, List.getElem?_eq_getElem (by omega)]
    exact List.mem_range.mp (hp.mem_iff.mp (List.getElem_mem _))
  simp [S__law_made]
  refine ⟨by omega, lcD_map tieD (fun p => some (tieD (ns.getD p.1 0, ns.getD p.2 0))) (fun p hpE N q => ?_) ?_⟩
  · have h1 := hE p hpE
    simp [tieD, g _ h1.1, g _ h1.2]
    simpa [tieD] using q
  · simp
    refine ⟨n, rfl, E.map (fun p : Nat × Nat => (ns.getD p.1 0, ns.getD p.2 0)), by first | exact .inl (by simp) | simp, by simpa using hl, fun x y hxy => ?_, fun ts t1 t2 => ?_⟩
    · obtain ⟨p, hpE, e⟩ := List.mem_map.mp hxy
      cases e
      have h1 := hE p hpE
      have := lt _ h1.1
      have := lt _ h1.2
      omega
    · refine hD n ts fs _ (Ok.of hn (fun p hpt => ?_) t1) hm (hf.up (by omega))
      obtain ⟨x, y⟩ := p
      obtain ⟨x', y', hxy, ne, rfl, rfl⟩ := (t2 x y).mp hpt
      obtain ⟨p, hpE, e⟩ := List.mem_map.mp hxy
      cases e
      have h1 := hE p hpE
      have := lt _ h1.1
      have := lt _ h1.2
      simp only
      omega
theorem web4 (hn : n ≤ 10) (hm : n ≤ max 1 m) (hB : B ≤ 700000000) (hD : WebEnd m B a D) {E : List (Nat × Nat)} {fs : List PyData} {x1 x3 x4 x6 x7 x8 x9 x10 x11 x12 x13 : Sl} (hE : Wi n E) (hl : E.length ≤ 63) (hf : Fd (B + 350) fs) :
    tl4__law_web D [.bw a fs, x1, .fz (.int (n : Int)), x3, x4, .fz (.list (E.map tieD)), x6, x7, x8, x9, x10, x11, x12, x13, .un, .un, .un] := by
  unfold tl4__law_web
  simp [S__law_mixed]
  refine ⟨by omega, _, hf, by omega, by omega, fun ds' fs2 hp hf2 => ?_⟩
  obtain ⟨ns, rfl, hpn⟩ := nats_perm hp
  exact web5 hn hm hB hD hE hl hpn (hf2.up (by omega))
theorem web3 (hn : n ≤ 10) (hm : n ≤ max 1 m) (hB : B ≤ 700000000) (hD : WebEnd m B a D) {E : List (Nat × Nat)} {fs : List PyData} {x1 : Sl} {w : Nat} (hw : w < 12) (hE : E.Sublist (pairsL n)) (hf : Fd (B + 60) fs) :
    tl3__law_web D [.bw a fs, x1, .fz (.int (n : Int)), .fz (.int (w : Int)), .fz (.list ((pairsL n).map tieD)), .fz (.list (E.map tieD)), .un, .un, .un, .un, .un, .un, .un, .un, .un, .un, .un] := by
  unfold tl3__law_web
  have hp45 := pairsL_small hn
  have go : ∀ {E : List (Nat × Nat)} {fs : List PyData} {x3 x4 x6 x7 x8 x9 x10 x11 x12 x13 : Sl}, Wi n E → E.length ≤ 63 → Fd (B + 350) fs →
      tl4__law_web D [.bw a fs, x1, .fz (.int (n : Int)), x3, x4, .fz (.list (E.map tieD)), x6, x7, x8, x9, x10, x11, x12, x13, .un, .un, .un] := fun hE hl hf => web4 hn hm hB hD hE hl hf
  have hEw : Wi n E := wi_pairs.sub hE
  have hEl : E.length ≤ 45 := by have := hE.length_le; omega
  rcases (by omega : w = 0 ∨ w = 1 ∨ w = 2 ∨ w = 3 ∨ w = 4 ∨ w = 5 ∨ w = 6 ∨ w = 7 ∨ w = 8 ∨ w = 9 ∨ w = 10 ∨ w = 11) with rfl | rfl | rfl | rfl | rfl | rfl | rfl | rfl | rfl | rfl | rfl | rfl
  · simp [S__law_tree_ties]
    refine ⟨_, hf, by omega, n, rfl, by omega, fun f fs2 hfl hf2 => ?_⟩
    rw [tree_map]
    exact go (tree_wi hfl) (by simp; omega) (hf2.up (by omega))
  · simp [S__law_draw]
    refine ⟨by omega, by omega, lcD_map (fun i : Nat => .int (i : Int)) (fun i : Nat => some (tieD ((i + 1) % n, i))) (fun i hi N q => ?_) ?_⟩
    · have hi := List.mem_range.mp hi
      simp
      refine ⟨by omega, ?_⟩
      simpa [tieD] using q
    · simp
      refine ⟨by omega, lcD_filt tieD (fun i ρ => ∃ fs, Fd (B + 60 + i) fs ∧ ρ = [.bw a fs, x1, .fz (.int (n : Int)), .fz (.int 1), .fz (.list ((pairsL n).map tieD)), .fz (.list (E.map tieD)), .un, .un, .un, .un, .un, .un, .un, .un, .un, .un, .un]) ⟨_, hf, rfl⟩ ?_ ?_⟩
      · rintro i p ρ hp ⟨fs2, hf2, rfl⟩ N hN
        have hi := (List.getElem?_eq_some_iff.mp hp).1
        simp
        refine ⟨_, hf2, by omega, by omega, by omega, fun r fs3 hr hf3 => ?_⟩
        simp
        split
        · exact hN true _ ⟨_, hf3, rfl⟩
        · exact hN false _ ⟨_, hf3, rfl⟩
      · rintro ys ρ sb ⟨fs2, hf2, rfl⟩
        have := sb.length_le
        simp
        refine ⟨by omega, ?_⟩
        have e : (List.range n).map (fun i => tieD ((i + 1) % n, i)) ++ ys.map tieD = ((List.range n).map (fun i => ((i + 1) % n, i)) ++ ys).map tieD := by simp
        rw [e]
        refine go (fun p hp => ?_) (by simp; omega) (hf2.up (by omega))
        rcases List.mem_append.mp hp with hp | hp
        · obtain ⟨i, hi, rfl⟩ := List.mem_map.mp hp
          have hi := List.mem_range.mp hi
          exact ⟨Nat.mod_lt _ (by omega), hi⟩
        · exact wi_pairs p (sb.subset hp)
  · simp [S__law_stacked_ties]
    refine ⟨_, hf, n, rfl, by omega, by omega, fun E2 fs2 hE2 l2 hf2 => ⟨by omega, ?_⟩⟩
    refine lcD_filt tieD (fun i ρ => ∃ fs, Fd (B + 60 + 10 + i) fs ∧ ρ = [.bw a fs, x1, .fz (.int (n : Int)), .fz (.int 2), .fz (.list ((pairsL n).map tieD)), .fz (.list (E.map tieD)), .un, .un, .un, .un, .un, .un, .un, .un, .un, .un, .un]) ⟨_, hf2, rfl⟩ ?_ ?_
    · rintro i p ρ hp ⟨fs2, hf2, rfl⟩ N hN
      have hi := (List.getElem?_eq_some_iff.mp hp).1
      simp [S__law_draw]
      refine ⟨_, hf2, by omega, fun r fs3 hr hf3 => ?_⟩
      split
      · exact hN true _ ⟨_, hf3, rfl⟩
      · exact hN false _ ⟨_, hf3, rfl⟩
    · rintro ys ρ sb ⟨fs2, hf2, rfl⟩
      have := sb.length_le
      exact go (hE2.sub sb) (by omega) (hf2.up (by omega))
  · simp [S__law_stacked_ties]
    refine ⟨_, hf, n, rfl, by omega, by omega, fun E2 fs2 hE2 l2 hf2 => ⟨by omega, ?_⟩⟩
    refine lcD_filt tieD (fun i ρ => ρ = [.bw a fs2, x1, .fz (.int (n : Int)), .fz (.int 3), .fz (.list ((pairsL n).map tieD)), .fz (.list (E.map tieD)), .un, .un, .un, .un, .un, .un, .un, .un, .un, .un, .un]) rfl ?_ ?_
    · rintro i p ρ hp rfl N hN
      simp
      exact hN true _ rfl
    · rintro ys ρ sb rfl
      have := sb.length_le
      exact go (hE2.sub sb) (by omega) (hf2.up (by omega))
  · simp [S__law_draw]
    refine ⟨by omega, by omega, lcD_inv (fun i acc ρ => ∃ (l : List Nat) (fs : List PyData), acc = natsD l ∧ l.length = i ∧ Fd (B + 60 + i) fs ∧ ρ = [.bw a fs, x1, .fz (.int (n : Int)), .fz (.int 4), .fz (.list ((pairsL n).map tieD)), .fz (.list (E.map tieD)), .un, .un, .un, .un, .un, .un, .un, .un, .un, .un, .un]) ⟨[], fs, rfl, rfl, hf, rfl⟩ ?_ ?_⟩
    · rintro i d acc ρ hd ⟨l, fs2, rfl, hl, hf2, rfl⟩ N hN
      have hi := (List.getElem?_eq_some_iff.mp hd).1
      simp at hi
      simp
      refine ⟨_, hf2, by omega, by omega, by omega, fun r fs3 hr hf3 => hN (some (.int (r : Int))) _ ⟨l ++ [r], fs3, by simp [natsD], by simp [hl], hf3, rfl⟩⟩
    · rintro acc ρ ⟨l, fs2, rfl, hl, hf2, rfl⟩
      simp at hl hf2
      simp
      refine ⟨by omega, lcD_filt tieD (fun i ρ => ∃ fs, Fd (B + 60 + n + i) fs ∧ ρ = [.bw a fs, x1, .fz (.int (n : Int)), .fz (.int 4), .fz (.list ((pairsL n).map tieD)), .fz (.list (E.map tieD)), .un, .un, .fz (.list (natsD l)), .un, .un, .un, .un, .un, .un, .un, .un]) ⟨_, hf2, rfl⟩ ?_ ?_⟩
      · rintro i p ρ hp ⟨fs2, hf2, rfl⟩ N hN
        have hi := (List.getElem?_eq_some_iff.mp hp).1
        have hp := mem_pairsL.mp (List.mem_of_getElem? hp)
        have g1 : atI (natsD l) (p.1 : Int) = some (.int (l.getD p.1 0 : Nat)) := nats_at (by omega)
        have g2 : atI (natsD l) (p.2 : Int) = some (.int (l.getD p.2 0 : Nat)) := nats_at (by omega)
        simp [tieD, g1, g2, S__law_draw]
        have n1 := hN false _ ⟨_, hf2.up (Nat.le_succ _), rfl⟩
        have n2 : ∀ b fs, Fd (B + 60 + n + i + 1) fs → _ := fun b fs h => hN b _ ⟨fs, h, rfl⟩
        split
        · simpa [tieD] using n1
        · refine ⟨_, hf2, by omega, fun r fs3 hr hf3 => ?_⟩
          split
          · simpa [tieD] using n2 true _ hf3
          · simpa [tieD] using n2 false _ hf3
      · rintro ys ρ sb ⟨fs2, hf2, rfl⟩
        have := sb.length_le
        exact go (wi_pairs.sub sb) (by omega) (hf2.up (by omega))
  · by_cases c : 4 < (n : Int)
    · simp [S__law_barred_ties, c]
      exact ⟨_, hf, n, rfl, by omega, by omega, by omega, fun E2 fs2 hE2 l2 hf2 => go hE2 (by omega) (hf2.up (by omega))⟩
    · simp [c]
      exact go hEw (by omega) (hf.up (by omega))
  · simp [S__law_tree_ties]
    refine ⟨_, hf, by omega, n, rfl, by omega, fun f fs2 hfl hf2 => ⟨by omega, ?_⟩⟩
    rw [tree_map]
    generalize (List.range (n - 1)).map (fun i => (f i, i + 1)) = T
    refine lcD_filt tieD (fun i ρ => ρ = [.bw a fs2, x1, .fz (.int (n : Int)), .fz (.int 6), .fz (.list ((pairsL n).map tieD)), .fz (.list (E.map tieD)), .un, .un, .un, .un, .fz (.list (T.map tieD)), .un, .un, .un, .un, .un, .un]) rfl ?_ ?_
    · rintro i p ρ hp rfl N hN
      simp
      refine ⟨⟨tie_pl p, plDs_iff.mpr fun d hd => by obtain ⟨x, _, rfl⟩ := List.mem_map.mp hd; exact tie_pl x, tie_depth p⟩, ?_⟩
      split
      · exact hN false _ rfl
      · exact hN true _ rfl
    · rintro ys ρ sb rfl
      have := sb.length_le
      exact go (wi_pairs.sub sb) (by omega) (hf2.up (by omega))
  · simp [S__law_draw]
    refine ⟨_, hf, by omega, by omega, fun r1 fs1 hr1 hf1 => ⟨_, hf1, by omega, fun r2 fs2 hr2 hf2 => ⟨by omega, ?_⟩⟩⟩
    refine lcD_filt tieD (fun i ρ => ∃ fs, Fd (B + 60 + 2 + i) fs ∧ ρ = [.bw a fs, x1, .fz (.int (n : Int)), .fz (.int 7), .fz (.list ((pairsL n).map tieD)), .fz (.list (E.map tieD)), .un, .un, .un, .un, .un, .fz (.int (r1 : Int)), .fz (.int (r2 : Int)), .un, .un, .un, .un]) ⟨_, hf2, rfl⟩ ?_ ?_
    · rintro i p ρ hp ⟨fs2, hf2, rfl⟩ N hN
      have hi := (List.getElem?_eq_some_iff.mp hp).1
      have n1 : ∀ b, _ := fun b => hN b _ ⟨_, hf2.up (Nat.le_succ _), rfl⟩
      have n2 : ∀ b fs, Fd (B + 60 + 2 + i + 1) fs → _ := fun b fs h => hN b _ ⟨fs, h, rfl⟩
      simp [tieD, S__law_draw]
      split
      · refine ⟨_, hf2, by omega, fun r fs3 hr hf3 => ?_⟩
        split
        · simpa [tieD] using n2 true _ hf3
        · simpa [tieD] using n2 false _ hf3
      · split
        · simpa [tieD] using n1 true
        · simpa [tieD] using n1 false
    · rintro ys ρ sb ⟨fs2, hf2, rfl⟩
      have := sb.length_le
      exact go (wi_pairs.sub sb) (by omega) (hf2.up (by omega))
  · simp [S__law_draw]
    refine ⟨_, hf, by omega, fun r1 fs1 hr1 hf1 => ⟨by omega, ?_⟩⟩
    refine lcD_filt tieD (fun i ρ => ρ = [.bw a fs1, x1, .fz (.int (n : Int)), .fz (.int 8), .fz (.list ((pairsL n).map tieD)), .fz (.list (E.map tieD)), .un, .un, .un, .un, .un, .un, .un, .fz (.int (2 + (r1 : Int))), .un, .un, .un]) rfl ?_ ?_
    · rintro i p ρ hp rfl N hN
      have n1 : ∀ b, _ := fun b => hN b _ rfl
      simp [tieD]
      split
      · simpa [tieD] using n1 true
      · split
        · refine ⟨by omega, ?_⟩
          split
          · simpa [tieD] using n1 true
          · simpa [tieD] using n1 false
        · simpa [tieD] using n1 false
    · rintro ys ρ sb rfl
      have := sb.length_le
      exact go (wi_pairs.sub sb) (by omega) (hf1.up (by omega))
  · simp [S__law_cube]
    refine ⟨_, hf, n, rfl, by omega, by omega, fun k E2 fs2 h1 hk s2 hf2 => ?_⟩
    have := s2.length_le
    have := pairsL_small (show k ≤ 10 by omega)
    exact web4 (by omega) (by omega) hB hD (wi_pairs.sub s2) (by omega) (hf2.up (by omega))
  · simp
    exact go hEw (by omega) (hf.up (by omega))
  · simp
    exact go hEw (by omega) (hf.up (by omega))
theorem web2 (hn : n ≤ 10) (hm : n ≤ max 1 m) (hB : B ≤ 700000000) (hD : WebEnd m B a D) {fs : List PyData} {x1 : Sl} {w : Nat} (hw : w < 12) (hf : Fd (B + 5) fs) :
    tl1__law_web D [.bw a fs, x1, .fz (.int (n : Int)), .fz (.int (w : Int)), .un, .un, .un, .un, .un, .un, .un, .un, .un, .un, .un, .un, .un] := by
  have hp45 := pairsL_small hn
  unfold tl1__law_web
  simp [S__law_pairs]
  refine ⟨n, rfl, by omega, ?_⟩
  unfold tl2__law_web
  simp [S__law_shared]
  exact ⟨_, hf, _, rfl, by omega, by omega, fun ts' fs' s h1 => web3 hn hm hB hD hw s (h1.up (by omega))⟩
end
theorem vc__law_web : vS__law_web := by
  intro fs as Q h a
  unfold S__law_web at h
  split at h
  · obtain ⟨B, n, hf, rfl, hn, hB, h⟩ := h
    have hD : WebEnd n B a ⟨fun _ => False, fun r ρ => ∃ d fs', r.dat = some d ∧ ρ[0]? = some (.bw a fs') ∧ Q d fs', fun _ => False, fun _ => False⟩ := fun k ts fs ρ h1 h2 h3 => ⟨_, _, rfl, rfl, h k ts fs h1 h2 h3⟩
    generalize (⟨fun _ => False, fun r ρ => ∃ d fs', r.dat = some d ∧ ρ[0]? = some (.bw a fs') ∧ Q d fs', fun _ => False, fun _ => False⟩ : DEnds) = D at hD
    simp [w__law_web, S__law_one, S__law_draw]
    refine ⟨B, hf, by omega, by omega, fun r fs1 hr hf1 => ⟨_, hf1, by omega, fun d fs2 hd hf2 => ?_⟩⟩
    have : ∃ k : Nat, d = .int (k : Int) ∧ k ≤ max 1 n ∧ k ≤ 10 := by
      rcases hd with rfl | rfl | rfl | rfl
      · exact ⟨n, rfl, by omega, hn⟩
      · exact ⟨n - 1, by congr 1; split <;> omega, by omega, by omega⟩
      · exact ⟨min n 5, by congr 1; split <;> omega, by omega, by omega⟩
      · exact ⟨r, rfl, by omega, by omega⟩
    obtain ⟨k, rfl, k1, k2⟩ := this
    exact ⟨_, hf2, by omega, fun w fs3 hw hf3 => web2 k2 k1 hB hD (by omega) (hf3.up (by omega))⟩
  · exact h.elim
end G

set_option Elab.async false
set_option linter.all false
set_option maxRecDepth 100000
set_option maxHeartbeats 1000000
namespace K87
open PySem PySem.Spec PyProof.Rows L2 DC G
@[simp] theorem enc_match {C : Addr} {fs : List (Str × PyData)} {R : Addr → List (Str × PyData) → Prop} {S : PyData → Prop} : (match (some (encOb C fs) : Option PyData) with
    | some (.dict kvs) => ∃ C1 fs1, encOb C1 fs1 = .dict kvs ∧ R C1 fs1
    | some d => S d
    | none => False) = R C fs := by
  refine propext ⟨fun ⟨C1, fs1, e, h⟩ => ?_, fun h => ⟨C, fs, rfl, h⟩⟩
  obtain ⟨rfl, rfl⟩ := encOb_inj (show encOb C1 fs1 = encOb C fs from e)
  exact h
@[simp] theorem ties_like (CT : Addr) (n : Nat) (ts : List (Nat × Nat)) (m : Nat) (us : List (Nat × Nat)) : List.lookup (Str.ofString "ties") (likeF CT n ts m us) = some (encOb CT (tiesF n ts)) := rfl
@[simp] theorem goal_like (CT : Addr) (n : Nat) (ts : List (Nat × Nat)) (m : Nat) (us : List (Nat × Nat)) : List.lookup (Str.ofString "goal") (likeF CT n ts m us) = some (encOb CT (tiesF m us)) := rfl
@[simp] theorem first_like (CT : Addr) (n : Nat) (ts : List (Nat × Nat)) (m : Nat) (us : List (Nat × Nat)) : List.lookup (Str.ofString "first") (likeF CT n ts m us) = none := rfl
@[simp] theorem fits_like (CT : Addr) (n : Nat) (ts : List (Nat × Nat)) (m : Nat) (us : List (Nat × Nat)) : List.lookup (Str.ofString "fits") (likeF CT n ts m us) = none := rfl
@[simp] theorem tied_ties (n : Nat) (ts : List (Nat × Nat)) : List.lookup (Str.ofString "are_tied") (tiesF n ts) = none := rfl
theorem to_at {n v : Nat} (ts : List (Nat × Nat)) (h : v < n) : atI ((List.range n).map fun v => PyData.int (nb ts v : Int)) (v : Int) = some (.int (nb ts v : Int)) := by
  rw [atI_n, List.getElem?_map, List.getElem?_range h]
  rfl
theorem vc_Ties_are_tied (C_Ties : Addr) : vS_Ties_are_tied C_Ties := by
  intro as Q h
  unfold S_Ties_are_tied at h
  split at h
  · obtain ⟨rfl, n, ts, a, b, rfl, ok, rfl, rfl, ha, h⟩ := h
    simp [w_Ties_are_tied, to_at ts ha]
    have e1 : ((nb ts a : Nat) : Int) / 2 ^ b = ((nb ts a / 2 ^ b : Nat) : Int) := by simp
    rw [e1, and_one]
    have e2 : decide (((nb ts a / 2 ^ b % 2 : Nat) : Int) = 1) = tied ts a b := by
      rw [← testBit_nb ok.ne, Nat.testBit_eq_decide_div_mod_eq]
      exact decide_eq_decide.mpr (by omega)
    rw [e2]
    exact h
  · exact h.elim
theorem vc_need_small : vS_need_small := by
  intro as Q h
  unfold S_need_small at h
  split at h
  · obtain ⟨n, ts, rfl, ok, h7, h⟩ := h
    simp [w_need_small, S_need_web]
    refine ⟨n, ts, rfl, ok, ?_⟩
    simp [webD]
    refine ⟨by omega, ?_⟩
    simpa using h
  · exact h.elim
theorem vc_first_form (C_Ties : Addr) : vS_first_form C_Ties := by
  intro as Q h
  unfold S_first_form at h
  split at h
  · obtain ⟨n, ts, rfl, ok, h7, h⟩ := h
    simp [w_first_form, S_need_small, S_first_form_of, S_renamed_web]
    refine ⟨n, ts, rfl, ok, h7, n, ts, rfl, ok, h7, fun ord hb => ⟨n, ts, rfl, ok, ord, rfl, pre_perm.mp hb.1, fun us hu => h us ⟨ord, hb, hu⟩⟩⟩
  · exact h.elim
theorem vc_is_order_of : vS_is_order_of := by
  intro as Q h
  unfold S_is_order_of at h
  split at h
  · obtain ⟨n, ord, rfl, rfl, hp, h10, h⟩ := h
    have hl : ord.length = n := by simpa using hp.length_eq
    simp [w_is_order_of, S_is_row, S_is_within, rowT, isRow, hl]
    refine ⟨by omega, ?_⟩
    refine lcD_map (fun j : Nat => .int (j : Int)) (fun _ => some (.bool true)) (xs := ord) (fun j hj N q => ?_) ?_
    · have := List.mem_range.mp (hp.mem_iff.mp hj)
      have c : (j : Int) ≤ (n : Int) - 1 := by omega
      simp [S_is_within, inB, c]
      simpa using q
    · simp
      refine ⟨List.replicate ord.length true, by simp [List.map_const'], ?_⟩
      simp
      refine ⟨ord.map fun i : Nat => (i : Int), natsD_ints ord, ord.map fun i : Nat => (i : Int), ?_, fun k => Iff.rfl, by simp; omega, ?_⟩
      · exact List.pairwise_map.mpr ((hp.nodup_iff.mpr List.nodup_range).imp fun {a b} z e => z (by omega))
      · simpa [hl] using h
  · exact h.elim
theorem vc_need_order : vS_need_order := by
  intro as Q h
  unfold S_need_order at h
  split at h
  · obtain ⟨n, ord, rfl, rfl, hp, h10, h⟩ := h
    simp [w_need_order, S_is_order_of]
    exact ⟨n, rfl, ord, rfl, hp, h10, h⟩
  · exact h.elim
theorem vc_renamed : vS_renamed := by
  intro as Q h
  unfold S_renamed at h
  split at h
  · obtain ⟨n, ts, ord, rfl, ok, rfl, hp, h⟩ := h
    simp [w_renamed, S_need_web]
    refine ⟨n, ts, rfl, ok, ?_⟩
    simp [webD, S_need_order, S_renamed_web]
    refine ⟨n, rfl, ord, rfl, hp, ok.n10, n, ts, ⟨rfl, rfl⟩, ok, ord, rfl, hp, fun us hu => h us hu⟩
  · exact h.elim
theorem vc_things_tied (C_Ties : Addr) : vS_things_tied C_Ties := by
  intro as Q h
  unfold S_things_tied at h
  split at h
  · obtain ⟨rfl, n, ts, v, rfl, ok, rfl, hv, h⟩ := h
    simp [w_things_tied, to_at ts hv, S_lot_of]
    exact ⟨nb ts v, rfl, nb_16 ok v, h⟩
  · exact h.elim
theorem vc_first_likeness (C_Likeness C_Ties : Addr) : vS_first_likeness C_Likeness C_Ties := by
  intro as Q h
  unfold S_first_likeness at h
  split at h
  · obtain ⟨n, ts, us, rfl, rfl, ok, ok', h7, h⟩ := h
    simp [w_first_likeness, wMake_Likeness, S_Likeness_first]
    exact ⟨n, ts, rfl, ok, n, us, rfl, ok', n, ts, us, rfl, ok, ok', h7, h⟩
  · exact h.elim
theorem vc_alike_webs (C_Likeness C_Ties : Addr) : vS_alike_webs C_Likeness C_Ties := by
  intro as Q h
  unfold S_alike_webs at h
  split at h
  · obtain ⟨n, ts, us, rfl, rfl, ok, ok', h7, h⟩ := h
    simp [w_alike_webs, S_need_web, S_first_likeness]
    refine ⟨n, ts, rfl, ok, n, us, rfl, ok', ?_⟩
    simp [webD]
    refine ⟨[(n : Int), (n : Int)], rfl, by simp, fun m hm _ => ⟨?_, n, ts, ⟨rfl, rfl⟩, us, ⟨rfl, rfl⟩, ok, ok', h7, h⟩⟩
    simp at hm
    omega
  · exact h.elim
theorem vc_fewest_watch (C_Ties : Addr) : vS_fewest_watch C_Ties := by
  intro as Q h
  unfold S_fewest_watch at h
  split at h
  · obtain ⟨n, ts, rfl, ok, h⟩ := h
    simp [w_fewest_watch, S_need_web, S_watch_lots]
    exact ⟨n, ts, rfl, ok, n, ts, rfl, ok, h⟩
  · exact h.elim
theorem vc__law_all : vS__law_all := by
  intro as Q h
  unfold S__law_all at h
  split at h
  · obtain ⟨n, ts, rfl, h10, h⟩ := h
    simp [w__law_all, webD]
    refine ⟨by omega, ?_⟩
    simpa [natsD] using h
  · exact h.elim
end K87

set_option Elab.async false
set_option linter.all false
set_option maxRecDepth 100000
set_option maxHeartbeats 1000000
namespace K87
open PySem PySem.Spec PyProof.Rows L2 DC G
theorem fld_like {C CT : Addr} {n m : Nat} {ts us : List (Nat × Nat)} {f : Str} {d : List (Str × PyData)} {ρ : List Sl} {Q : Rs → List Sl → Prop} (e : (likeF CT n ts m us).lookup f = some (encOb CT d)) : wFld C f (wVar 0) (.ob C (likeF CT n ts m us) :: ρ) Q = Q (.ob CT d) (.ob C (likeF CT n ts m us) :: ρ) := by
  refine propext ⟨fun h => ?_, fun h => ?_⟩
  · simp only [wFld, wVar, List.getElem?_cons_zero, e, true_and] at h
    obtain ⟨C1, fs1, e1, h⟩ := h
    obtain ⟨rfl, rfl⟩ := encOb_inj (show encOb C1 fs1 = encOb CT d from e1)
    exact h
  · simp only [wFld, wVar, List.getElem?_cons_zero, e, true_and]
    exact ⟨_, _, rfl, h⟩
theorem fld_ties {C CT : Addr} {n m : Nat} {ts us : List (Nat × Nat)} {ρ : List Sl} {Q : Rs → List Sl → Prop} : wFld C "ties" (wVar 0) (.ob C (likeF CT n ts m us) :: ρ) Q = Q (.ob CT (tiesF n ts)) (.ob C (likeF CT n ts m us) :: ρ) := fld_like rfl
theorem fld_goal {C CT : Addr} {n m : Nat} {ts us : List (Nat × Nat)} {ρ : List Sl} {Q : Rs → List Sl → Prop} : wFld C "goal" (wVar 0) (.ob C (likeF CT n ts m us) :: ρ) Q = Q (.ob CT (tiesF m us)) (.ob C (likeF CT n ts m us) :: ρ) := fld_like rfl
theorem fld_many {C : Addr} {wo : WE} {ρ : List Sl} {Q : Rs → List Sl → Prop} : wFld C "many" wo ρ Q = wo ρ fun r ρ1 => match r with
  | .ob C' fs => C' = C ∧ match fs.lookup ("many" : Str) with
    | some (.dict kvs) => ∃ C1 fs1, encOb C1 fs1 = .dict kvs ∧ Q (.ob C1 fs1) ρ1
    | some d => Q (.fz d) ρ1
    | none => False
  | _ => False := rfl
theorem vc_Likeness_fits (C_Likeness C_Ties : Addr) : vS_Likeness_fits C_Likeness C_Ties := by
  intro as Q h
  unfold S_Likeness_fits at h
  split at h
  · rename_i C' _ _ _
    obtain ⟨rfl, n, ts, us, r, t, rfl, ok, ok', rfl, hr, hl, rfl, ht, h⟩ := h
    simp [-wFld, w_Likeness_fits, rowT, S_things_tied, fld_ties, fld_goal]
    refine ⟨r.map fun i : Nat => (i : Int), natsD_ints r, ?_⟩
    by_cases c1 : t ∈ r
    · have : ((t : Nat) : Int) ∈ r.map fun i : Nat => (i : Int) := List.mem_map.mpr ⟨t, c1, rfl⟩
      rw [if_pos this]
      have e : fitB ts us r t = false := by unfold fitB; simp [c1]
      rw [e] at h
      exact h
    · have : ¬ ((t : Nat) : Int) ∈ r.map fun i : Nat => (i : Int) := fun z => by
        obtain ⟨x, hx, e⟩ := List.mem_map.mp z
        have : x = t := by omega
        subst this
        exact c1 hx
      rw [if_neg this]
      refine ⟨n, ts, rfl, ok, t, rfl, ht, n, us, rfl, ok', r.length, rfl, hl, ?_⟩
      by_cases c2 : deg ts t = deg us r.length
      · have c3 : ((bits (nb ts t)).length : Int) = ((bits (nb us r.length)).length : Int) := by unfold deg at c2; omega
        rw [if_pos c3]
        have n10 := ok.n10
        refine ⟨by simp [enumD, natsD]; omega, ?_⟩
        refine lcD_inv (fun i acc ρ => acc = ((List.range i).map fun i => PyData.bool (tied ts (r.getD i 0) t == tied us i r.length)) ∧ ρ = [.ob C' (likeF C_Ties n ts n us), .fz (.tuple (natsD r)), .fz (.int (t : Int)), .fz (.int (r.length : Int)), .un, .un]) ⟨rfl, rfl⟩ ?_ ?_
        · rintro i d acc ρ hd ⟨rfl, rfl⟩ N hN
          obtain ⟨u, e1, rfl⟩ := enumD_get hd
          rw [natsD_get] at e1
          cases e2 : r[i]? with
          | none => rw [e2] at e1; cases e1
          | some x =>
            rw [e2] at e1
            cases e1
            have hx := hr x (List.mem_of_getElem? e2)
            have hi := (List.getElem?_eq_some_iff.mp e2).1
            have gx : r.getD i 0 = x := by rw [List.getD_eq_getElem?_getD, e2]; rfl
            simp [-wFld, -List.lookup_eq_none_iff, fld_ties, fld_goal, S_Ties_are_tied]
            refine ⟨n, ts, rfl, ok, x, rfl, t, rfl, hx, n, us, rfl, ok', i, rfl, r.length, rfl, by omega, ?_⟩
            refine hN _ _ ⟨?_, rfl⟩
            rw [List.range_succ, List.map_append, List.map_singleton, gx]
            simp
            cases tied ts x t <;> cases tied us i r.length <;> rfl
        · rintro acc ρ ⟨rfl, rfl⟩
          simp
          refine ⟨(List.range r.length).map fun i => tied ts (r.getD i 0) t == tied us i r.length, by simp [enumD, natsD], ?_⟩
          have e : fitB ts us r t = ((List.range r.length).map fun i => tied ts (r.getD i 0) t == tied us i r.length).all id := by
            unfold fitB
            rw [List.all_map]
            simp [c1, c2]
          rw [e] at h
          exact h
      · have c3 : ¬ ((bits (nb ts t)).length : Int) = ((bits (nb us r.length)).length : Int) := by unfold deg at c2; omega
        rw [if_neg c3]
        have e : fitB ts us r t = false := by unfold fitB; simp [c2]
        rw [e] at h
        exact h
  · exact h.elim
def Part (n : Nat) (ts us : List (Nat × Nat)) (k : Nat) (r : List Nat) : Prop := Pre n k r ∧ (∀ i, i < k → deg ts (r.getD i 0) = deg us i) ∧ ∀ i j, i < j → j < k → tied ts (r.getD i 0) (r.getD j 0) = tied us i j
theorem getD_old {r : List Nat} {t i : Nat} (h : i < r.length) : (r ++ [t]).getD i 0 = r.getD i 0 := by
  rw [List.getD_eq_getElem?_getD, List.getElem?_append_left h, List.getD_eq_getElem?_getD]
theorem getD_new {r : List Nat} {t : Nat} : (r ++ [t]).getD r.length 0 = t := by
  rw [List.getD_eq_getElem?_getD, List.getElem?_append_right (Nat.le_refl _)]
  simp
theorem fitB_iff {ts us : List (Nat × Nat)} {r : List Nat} {t : Nat} : fitB ts us r t = true ↔ t ∉ r ∧ deg ts t = deg us r.length ∧ ∀ i, i < r.length → tied ts (r.getD i 0) t = tied us i r.length := by
  unfold fitB
  simp only [Bool.and_eq_true, decide_eq_true_eq, List.all_eq_true, List.mem_range, beq_iff_eq, and_assoc]
theorem part_snoc {n k : Nat} {ts us : List (Nat × Nat)} {r : List Nat} {t : Nat} : Part n ts us (k + 1) (r ++ [t]) ↔ Part n ts us k r ∧ t < n ∧ fitB ts us r t = true := by
  rw [fitB_iff]
  constructor
  · rintro ⟨h1, h2, h3⟩
    obtain ⟨q1, q2, q3⟩ := pre_snoc.mp h1
    have hl := q1.1
    refine ⟨⟨q1, fun i hi => ?_, fun i j hij hj => ?_⟩, q3, q2, ?_, fun i hi => ?_⟩
    · have := h2 i (by omega)
      rwa [getD_old (by omega)] at this
    · have := h3 i j hij (by omega)
      rwa [getD_old (by omega), getD_old (by omega)] at this
    · have := h2 r.length (by omega)
      rwa [getD_new] at this
    · have := h3 i r.length hi (by omega)
      rwa [getD_old hi, getD_new] at this
  · rintro ⟨⟨q1, q2, q3⟩, q4, q5, q6, q7⟩
    have hl := q1.1
    refine ⟨pre_snoc.mpr ⟨q1, q5, q4⟩, fun i hi => ?_, fun i j hij hj => ?_⟩
    · by_cases c : i < r.length
      · rw [getD_old c]; exact q2 i (by omega)
      · have : i = r.length := by omega
        subst this
        rw [getD_new]; exact q6
    · by_cases c : j < r.length
      · rw [getD_old c, getD_old (by omega)]; exact q3 i j hij (by omega)
      · have : j = r.length := by omega
        subst this
        rw [getD_new, getD_old hij]; exact q7 i hij
def ext (n : Nat) (ts us : List (Nat × Nat)) (r : List Nat) : List (List Nat) := ((List.range n).filter (fitB ts us r)).map fun t => r ++ [t]
theorem deg_ren {n : Nat} {l : List Nat} {ts us : List (Nat × Nat)} (ok : Ok n ts) (ok' : Ok n us) (hp : l.Perm (List.range n)) (e : IsRen n l ts us) {i : Nat} (hi : i < n) : deg ts (l.getD i 0) = deg us i := by
  have hl : l.length = n := by simpa using hp.length_eq
  unfold deg
  have mt : ∀ {ts : List (Nat × Nat)} {v u : Nat}, Ok n ts → (u ∈ bits (nb ts v) ↔ tied ts v u = true) := fun {ts v u} ok => by rw [mem_bits (nb_16 ok v), testBit_nb ok.ne]
  have nd : ∀ {m : Nat}, (bits m).Nodup := fun {m} => nodup_bits _
  have lt : ∀ {ts : List (Nat × Nat)} {v u : Nat}, Ok n ts → tied ts v u = true → u < n := fun {ts v u} ok h => by
    unfold tied at h
    rcases of_decide_eq_true h with h | h
    · exact (ok.tie _ h).2
    · have := ok.tie _ h
      simp only at this
      omega
  have pm : (bits (nb ts (l.getD i 0))).Perm ((bits (nb us i)).map fun x => l.getD x 0) := by
    refine (List.perm_ext_iff_of_nodup nd (List.pairwise_map.mpr (List.Pairwise.imp_of_mem (fun {a b} ha hb ne e => ne (perm_inj hp (lt ok' ((mt ok').mp ha)) (lt ok' ((mt ok').mp hb)) e)) nd))).mpr fun w => ?_
    rw [mt ok, List.mem_map]
    constructor
    · intro h
      obtain ⟨u, hu, e1⟩ := List.getElem_of_mem (hp.mem_iff.mpr (List.mem_range.mpr (lt ok h)))
      have e2 : l.getD u 0 = w := by rw [List.getD_eq_getElem?_getD, List.getElem?_eq_getElem hu]; exact e1
      refine ⟨u, (mt ok').mpr ?_, e2⟩
      rw [e.eq i u hi (by omega), e2]
      exact h
    · rintro ⟨u, hu, rfl⟩
      have hu := (mt ok').mp hu
      rw [e.eq i u hi (lt ok' hu)] at hu
      exact hu
  rw [pm.length_eq, List.length_map]
theorem part_full {n : Nat} {ts us : List (Nat × Nat)} (ok : Ok n ts) (ok' : Ok n us) {r : List Nat} : Part n ts us n r ↔ r.Perm (List.range n) ∧ IsRen n r ts us := by
  constructor
  · rintro ⟨h1, h2, h3⟩
    refine ⟨pre_perm.mp h1, ok', fun i j hi hj => ?_⟩
    rcases Nat.lt_trichotomy i j with c | c | c
    · exact (h3 i j c hj).symm
    · subst c
      rw [tied_self ok, tied_self ok']
    · rw [tied_symm us, tied_symm ts]
      exact (h3 j i c hi).symm
  · rintro ⟨h1, h2⟩
    exact ⟨pre_perm.mpr h1, fun i hi => deg_ren ok ok' h1 h2 hi, fun i j hij hj => (h2.eq i j (by omega) hj).symm⟩
theorem plD_rowT (x : List Nat) : plD (rowT x) = true := by
  have : ∀ d ∈ natsD x, plD d = true := fun d hd => by
    obtain ⟨i, _, rfl⟩ := List.mem_map.mp hd
    rfl
  simpa [rowT, plD] using plDs_iff.mpr this
theorem depth_rowT (x : List Nat) : (rowT x).depth ≤ 10 := by
  have := PySem.W.depth_ints (x.map fun i : Nat => (i : Int))
  unfold rowT
  rw [natsD_ints]
  simp only [PyData.depth]
  omega
theorem depth_rowsT (l : List (List Nat)) : (PyData.list (l.map rowT)).depth ≤ 60 := by
  have h : PyData.depthAll (l.map rowT) ≤ 20 := by
    induction l with
    | nil => simp [PyData.depthAll]
    | cons a r ih =>
      have := depth_rowT a
      simp only [List.map_cons, PyData.depthAll]
      omega
  simp only [PyData.depth]
  omega
theorem flat_len (n : Nat) (ts us : List (Nat × Nat)) (h7 : n ≤ 7) (l : List (List Nat)) : (l.flatMap (ext n ts us)).length ≤ 7 * l.length := by
  induction l with
  | nil => simp
  | cons a r ih =>
    rw [List.flatMap_cons, List.length_append, List.length_cons]
    have : (ext n ts us a).length ≤ 7 := by
      unfold ext
      rw [List.length_map]
      have := List.length_filter_le (fitB ts us a) (List.range n)
      rw [List.length_range] at this
      omega
    omega
theorem vc_Likeness_first (C_Likeness C_Ties : Addr) : vS_Likeness_first C_Likeness C_Ties := by
  intro as Q h
  unfold S_Likeness_first at h
  split at h
  · rename_i C' _
    obtain ⟨rfl, n, ts, us, rfl, ok, ok', h7, h⟩ := h
    simp [-wFld, w_Likeness_first, fld_ties, fld_goal, fld_many]
    unfold lp2_Likeness_first
    simp
    refine ⟨by omega, forD_inv (fun k ρ => ∃ (rows : List (List Nat)) (x3 x4 x5 : Sl), (∀ r, r ∈ rows ↔ Part n ts us k r) ∧ rows.length ≤ 7 ^ k ∧ ρ = [.ob C' (likeF C_Ties n ts n us), .fz (.int (n : Int)), .fz (.list (rows.map rowT)), x3, x4, x5, .un]) ⟨[[]], _, _, _, ?_, by simp, rfl⟩ ?_ ?_⟩
    · intro r
      rw [List.mem_singleton]
      refine ⟨fun e => ?_, fun e => List.eq_nil_of_length_eq_zero e.1.1⟩
      subst e
      exact ⟨⟨rfl, List.nodup_nil, by simp⟩, fun i hi => by omega, fun i j _ hj => by omega⟩
    · rintro k d ρ hd ⟨rows, x3, x4, x5, hR, hl, rfl⟩ N hN
      have hk : k < n := by
        have := (List.getElem?_eq_some_iff.mp hd).1
        simpa using this
      have hd' : d = .int (k : Int) := by
        rw [List.getElem?_map, List.getElem?_range (by omega)] at hd
        simpa using (Option.some.inj hd).symm
      subst hd'
      simp
      unfold lp1_Likeness_first
      simp
      refine forD_inv (fun i ρ => ∃ x5, ρ = [.ob C' (likeF C_Ties n ts n us), .fz (.int (n : Int)), .fz (.list (rows.map rowT)), .fz (.int (k : Int)), .ow (((rows.take i).flatMap (ext n ts us)).map rowT), x5, .un]) ⟨_, rfl⟩ ?_ ?_
      · rintro i d ρ hd ⟨x5, rfl⟩ M hM
        rw [List.getElem?_map] at hd
        cases e : rows[i]? with
        | none => rw [e] at hd; cases hd
        | some r =>
          rw [e] at hd
          cases hd
          have hr := (hR r).mp (List.mem_of_getElem? e)
          have hrl := hr.1.1
          simp
          refine ⟨by omega, by omega, lcD_map (fun j : Nat => .int (j : Int)) (fun t => if fitB ts us r t = true then some (rowT (r ++ [t])) else none) (fun t ht M2 q => ?_) ?_⟩
          · have ht := List.mem_range.mp ht
            simp [-List.lookup_eq_none_iff, S_Likeness_fits]
            refine ⟨n, ts, us, rfl, ok, ok', r, rfl, hr.1.2.2, by omega, t, rfl, ht, ?_⟩
            cases z : fitB ts us r t with
            | true =>
              have rl : r.length ≤ 9999999 := by omega
              simpa [z, rowT, natsD, rl] using q
            | false => simpa [z] using q
          · simp
            have e2 : (List.range n).filterMap (fun t => if fitB ts us r t = true then some (rowT (r ++ [t])) else none) = (ext n ts us r).map rowT := by
              unfold ext
              rw [List.map_map, ← List.filterMap_eq_map, ← List.filterMap_eq_filter, List.filterMap_filterMap]
              congr 1
              funext t
              cases z : fitB ts us r t <;> simp [z, Option.guard]
            rw [e2]
            have bnd := flat_len n ts us h7 (rows.take i)
            have bnd2 := flat_len n ts us h7 [r]
            have tl : (rows.take i).length ≤ rows.length := by rw [List.length_take]; omega
            have p7 : 7 ^ k ≤ 7 ^ 6 := Nat.pow_le_pow_right (by decide) (by omega)
            simp at bnd2
            refine ⟨by simp at bnd tl ⊢; omega, hM _ ⟨.fz (rowT r), ?_⟩⟩
            have e3 : rows.take (i + 1) = rows.take i ++ [r] := by
              rw [List.take_add_one, e]
              rfl
            rw [e3, List.flatMap_append, List.flatMap_singleton, List.map_append]
      · rintro ρ ⟨x5, rfl⟩
        rw [List.length_map, List.take_length]
        simp
        refine hN _ ⟨rows.flatMap (ext n ts us), .fz (.int (k : Int)), .fz (.list ((rows.flatMap (ext n ts us)).map rowT)), x5, fun r => ?_, ?_, rfl⟩
        · rw [List.mem_flatMap]
          constructor
          · rintro ⟨r0, h0, h1⟩
            obtain ⟨t, h2, rfl⟩ := List.mem_map.mp h1
            rw [List.mem_filter, List.mem_range] at h2
            exact part_snoc.mpr ⟨(hR r0).mp h0, h2⟩
          · intro hp
            obtain ⟨r0, t, rfl⟩ := pre_split hp.1
            obtain ⟨h1, h2, h3⟩ := part_snoc.mp hp
            exact ⟨r0, (hR r0).mpr h1, List.mem_map.mpr ⟨t, List.mem_filter.mpr ⟨List.mem_range.mpr h2, h3⟩, rfl⟩⟩
        · have bnd := flat_len n ts us h7 rows
          rw [Nat.pow_succ]
          omega
    · rintro ρ ⟨rows, x3, x4, x5, hR, hl, rfl⟩
      simp at hR hl
      have p7 : 7 ^ n ≤ 7 ^ 7 := Nat.pow_le_pow_right (by decide) h7
      simp
      refine ⟨⟨shaped_pl ?_ (depth_rowsT rows), shaped_pl rfl (by decide)⟩, ?_⟩
      · simp only [plD]
        exact plDs_iff.mpr fun d hd => by obtain ⟨x, _, rfl⟩ := List.mem_map.mp hd; exact plD_rowT x
      · cases rows with
        | nil =>
          simp [PyData.eqv, PyData.eqvAll]
          refine h none ?_
          rintro ⟨l, hp, hi⟩
          have := (hR l).mpr ((part_full ok ok').mpr ⟨hp, hi⟩)
          simp at this
        | cons a l =>
          simp [PyData.eqv, PyData.eqvAll, atI, ixN]
          exact h (some a) ((part_full ok ok').mp ((hR a).mp (by simp)))
  · exact h.elim
end K87

set_option Elab.async false
set_option linter.all false
set_option maxRecDepth 100000
set_option maxHeartbeats 1000000
namespace K87
open PySem PySem.Spec PyProof.Rows L2 DC G
/-- the place of each thing -/
def namesK (ord : List Nat) (k : Nat) : List (Key × PyData) := (List.range k).map fun i => (Sum.inl ((ord.getD i 0 : Nat) : Int), PyData.int (i : Int))
theorem look_names {ord : List Nat} (nd : ord.Nodup) : ∀ {k i : Nat}, k ≤ ord.length → i < k → lookK (namesK ord k) ((ord.getD i 0 : Nat) : Int) = some (.int (i : Int)) := by
  intro k i hk hi
  unfold lookK namesK
  rw [List.find?_map]
  have : (List.range k).find? ((fun p : Key × PyData => decide (p.1 = Sum.inl ((ord.getD i 0 : Nat) : Int))) ∘ fun i => (Sum.inl ((ord.getD i 0 : Nat) : Int), PyData.int (i : Int))) = some i := by
    rw [List.find?_eq_some_iff_getElem]
    refine ⟨by simp, i, by simpa using hi, by simp, fun j hj => ?_⟩
    simp
    intro e
    have hi' : i < ord.length := by omega
    have hj' : j < ord.length := by omega
    rw [List.getElem?_eq_getElem hi', List.getElem?_eq_getElem hj'] at e
    have := (List.getElem?_inj hj' nd).mp (show ord[j]? = ord[i]? by rw [List.getElem?_eq_getElem hi', List.getElem?_eq_getElem hj']; simp at e; exact congrArg some (Int.ofNat.inj e))
    omega
  rw [this]
  rfl
theorem has_names {ord : List Nat} (nd : ord.Nodup) {k : Nat} (hk : k < ord.length) : hasK (keysP (namesK ord k)) (Sum.inl ((ord.getD k 0 : Nat) : Int)) = false := by
  unfold hasK keysP namesK
  rw [List.map_map, List.any_map, List.any_eq_false]
  intro j hj
  have hj := List.mem_range.mp hj
  simp
  intro e
  have hj' : j < ord.length := by omega
  rw [List.getElem?_eq_getElem hk, List.getElem?_eq_getElem hj'] at e
  have := (List.getElem?_inj hj' nd).mp (show ord[j]? = ord[k]? by rw [List.getElem?_eq_getElem hk, List.getElem?_eq_getElem hj']; simp at e; exact congrArg some (Int.ofNat.inj e))
  omega
def toRow (p : Nat × Nat) : List Nat := [p.1, p.2]
def place (ord : List Nat) (x : Nat) : Nat := ord.idxOf x
def fp (ord : List Nat) (p : Nat × Nat) : Nat × Nat := (min (place ord p.1) (place ord p.2), max (place ord p.1) (place ord p.2))
theorem place_ok {n : Nat} {ord : List Nat} (hp : ord.Perm (List.range n)) {x : Nat} (h : x < n) : place ord x < n ∧ ord.getD (place ord x) 0 = x := by
  have hl : ord.length = n := by simpa using hp.length_eq
  have hm : x ∈ ord := hp.mem_iff.mpr (List.mem_range.mpr h)
  have hi : ord.idxOf x < ord.length := List.idxOf_lt_length_iff.mpr hm
  refine ⟨by unfold place; omega, ?_⟩
  unfold place
  rw [List.getD_eq_getElem?_getD, List.getElem?_eq_getElem hi]
  simp
theorem place_get {n : Nat} {ord : List Nat} (hp : ord.Perm (List.range n)) {i : Nat} (h : i < n) : place ord (ord.getD i 0) = i := by
  obtain ⟨h1, h2⟩ := place_ok hp (perm_getD hp h)
  exact perm_inj hp h1 h h2
theorem ren_ex {n : Nat} {ord : List Nat} {ts : List (Nat × Nat)} (ok : Ok n ts) (hp : ord.Perm (List.range n)) : ∃ us, IsRen n ord ts us ∧ (us.map toRow).Perm (ts.map fun p => toRow (fp ord p)) ∧ (us.map toRow).Pairwise fun a b => leR a b = true := by
  have inj : ∀ p ∈ ts, ∀ q ∈ ts, fp ord p = fp ord q → p = q := fun p hp' q hq e => by
    have a := ok.tie p hp'
    have b := ok.tie q hq
    obtain ⟨a1, a2⟩ := place_ok hp (show p.1 < n by omega)
    obtain ⟨a3, a4⟩ := place_ok hp a.2
    obtain ⟨b1, b2⟩ := place_ok hp (show q.1 < n by omega)
    obtain ⟨b3, b4⟩ := place_ok hp b.2
    unfold fp at e
    injection e with e1 e2
    have : (place ord p.1 = place ord q.1 ∧ place ord p.2 = place ord q.2) ∨ (place ord p.1 = place ord q.2 ∧ place ord p.2 = place ord q.1) := by omega
    rcases this with ⟨c1, c2⟩ | ⟨c1, c2⟩
    · rw [c1, b2] at a2
      rw [c2, b4] at a4
      exact Prod.ext a2.symm a4.symm
    · rw [c1, b4] at a2
      rw [c2, b2] at a4
      omega
  have ndt : ts.Nodup := ok.asc.imp fun {a b} z e => by subst e; unfold lexL at z; omega
  have nd : (ts.map (fp ord)).Nodup := List.pairwise_map.mpr (ndt.imp_of_mem fun {a b} ha hb ne e => ne (inj a ha b hb e))
  have pm := List.mergeSort_perm (ts.map (fp ord)) lexB
  have so : ((ts.map (fp ord)).mergeSort lexB).Pairwise fun a b => lexB a b = true := List.pairwise_mergeSort (fun a b c h1 h2 => by
    unfold lexB at *
    have h1 := of_decide_eq_true h1
    have h2 := of_decide_eq_true h2
    exact decide_eq_true (by omega)) (fun a b => by
    unfold lexB
    rw [Bool.or_eq_true, decide_eq_true_eq, decide_eq_true_eq]
    omega) _
  generalize (ts.map (fp ord)).mergeSort lexB = us at pm so
  have asc : us.Pairwise lexL := (so.and (pm.nodup_iff.mpr nd)).imp fun {a b} h => by
    have h1 := of_decide_eq_true h.1
    have h2 : ¬ (a.1 = b.1 ∧ a.2 = b.2) := fun z => h.2 (Prod.ext z.1 z.2)
    unfold lexL
    omega
  have mem : ∀ p, p ∈ us ↔ ∃ q ∈ ts, fp ord q = p := fun p => by rw [pm.mem_iff, List.mem_map]
  refine ⟨us, ⟨Ok.of ok.n10 (fun p hp' => ?_) asc, fun i j hi hj => ?_⟩, ?_, ?_⟩
  · obtain ⟨q, hq, rfl⟩ := (mem p).mp hp'
    have b := ok.tie q hq
    obtain ⟨b1, b2⟩ := place_ok hp (show q.1 < n by omega)
    obtain ⟨b3, b4⟩ := place_ok hp b.2
    have ne : place ord q.1 ≠ place ord q.2 := fun e => by rw [e, b4] at b2; omega
    unfold fp
    simp only
    omega
  · unfold tied
    refine decide_eq_decide.mpr ⟨fun h => ?_, fun h => ?_⟩
    · have key : ∀ a b, a < n → b < n → (a, b) ∈ us → (ord.getD a 0, ord.getD b 0) ∈ ts ∨ (ord.getD b 0, ord.getD a 0) ∈ ts := fun a b ha hb h => by
        obtain ⟨q, hq, e⟩ := (mem _).mp h
        have c := ok.tie q hq
        obtain ⟨b1, b2⟩ := place_ok hp (show q.1 < n by omega)
        obtain ⟨b3, b4⟩ := place_ok hp c.2
        unfold fp at e
        injection e with e1 e2
        have : (place ord q.1 = a ∧ place ord q.2 = b) ∨ (place ord q.1 = b ∧ place ord q.2 = a) := by omega
        rcases this with ⟨c1, c2⟩ | ⟨c1, c2⟩
        · rw [c1] at b2; rw [c2] at b4
          rw [b2, b4]; exact .inl hq
        · rw [c1] at b2; rw [c2] at b4
          rw [b2, b4]; exact .inr hq
      rcases h with h | h
      · exact key i j hi hj h
      · exact (key j i hj hi h).symm
    · have key : ∀ a b, a < n → b < n → (ord.getD a 0, ord.getD b 0) ∈ ts → (a, b) ∈ us ∨ (b, a) ∈ us := fun a b ha hb h => by
        have : fp ord (ord.getD a 0, ord.getD b 0) = (min a b, max a b) := by
          unfold fp
          simp only [place_get hp ha, place_get hp hb]
        have m := (mem (min a b, max a b)).mpr ⟨_, h, this⟩
        rcases Nat.le_total a b with c | c
        · rw [Nat.min_eq_left c, Nat.max_eq_right c] at m; exact .inl m
        · rw [Nat.min_eq_right c, Nat.max_eq_left c] at m; exact .inr m
      rcases h with h | h
      · exact key i j hi hj h
      · exact (key j i hj hi h).symm
  · have := pm.map toRow
    rwa [List.map_map] at this
  · refine List.pairwise_map.mpr (so.imp fun {a b} h => ?_)
    have h := of_decide_eq_true h
    unfold leR toRow
    refine decide_eq_true ?_
    rcases h with h | ⟨h1, h2⟩
    · exact List.cons_le_cons_iff.mpr (.inl h)
    · refine List.cons_le_cons_iff.mpr (.inr ⟨h1, ?_⟩)
      rcases Nat.lt_or_eq_of_le h2 with h2 | h2
      · exact List.cons_le_cons_iff.mpr (.inl h2)
      · exact List.cons_le_cons_iff.mpr (.inr ⟨h2, List.le_refl _⟩)
theorem vc_renamed_web : vS_renamed_web := by
  intro as Q h
  unfold S_renamed_web at h
  split at h
  · obtain ⟨n, ts, ord, rfl, ok, rfl, hp, h⟩ := h
    have hl : ord.length = n := by simpa using hp.length_eq
    have nd : ord.Nodup := hp.nodup_iff.mpr List.nodup_range
    have n10 := ok.n10
    have step : ∀ (i : Nat) (xs : List PyData), (enumD (natsD ord)).drop i = xs → i ≤ n → ∀ (Q1 : Rs → List Sl → Prop), Q1 (.nd (namesK ord n)) [.fz (webD n ts), .fz (rowT ord), .un, .un, .un, .un, .un, .un] →
        dcD (gT 2 (gCons' (gN 3) (gCons' (gN 4) gNil'))) wYes (wVar 4) (wVar 3) [3, 4] Q1 xs (namesK ord i) [.fz (webD n ts), .fz (rowT ord), .un, .un, .un, .un, .un, .un] := by
      intro i xs
      induction xs generalizing i with
      | nil =>
        intro e hi Q1 q
        have : n ≤ i := by
          have := congrArg List.length e
          simp [enumD, natsD, hl] at this
          omega
        have : i = n := by omega
        subst this
        exact q
      | cons d xs ih =>
        intro e hi Q1 q
        have hd : (enumD (natsD ord))[i]? = some d := by
          have := congrArg (fun l : List PyData => l[0]?) e
          simpa using this
        have e' : (enumD (natsD ord)).drop (i + 1) = xs := by
          have := congrArg List.tail e
          simpa using this
        obtain ⟨u, e1, rfl⟩ := enumD_get hd
        rw [natsD_get] at e1
        cases e2 : ord[i]? with
        | none => rw [e2] at e1; cases e1
        | some x =>
          rw [e2] at e1
          cases e1
          have hi' := (List.getElem?_eq_some_iff.mp e2).1
          have gx : ord.getD i 0 = x := by rw [List.getD_eq_getElem?_getD, e2]; rfl
          have hn := has_names nd hi'
          rw [gx] at hn
          simp [hn]
          have e3 : namesK ord i ++ [(Sum.inl ((x : Nat) : Int), PyData.int (i : Int))] = namesK ord (i + 1) := by
            unfold namesK
            rw [List.range_succ, List.map_append, List.map_singleton, gx]
          rw [e3]
          exact ih (i + 1) e' (by omega) Q1 q
    simp only [w_renamed_web, wSeq, wSet, wDc, wEnumX, wCons, wVar, wNil]
    refine ⟨by simp [enumD, natsD]; omega, step 0 _ rfl (Nat.zero_le _) _ ?_⟩
    obtain ⟨us, hu, h1, h2⟩ := ren_ex ok hp
    simp [webD]
    have few := ok.few
    refine ⟨by omega, lcD_map tieD (fun p => some (rowD (toRow (fp ord p)))) (fun p hpt N q => ?_) ?_⟩
    · have t := ok.tie p hpt
      obtain ⟨b1, b2⟩ := place_ok hp (show p.1 < n by omega)
      obtain ⟨b3, b4⟩ := place_ok hp t.2
      have l1 := look_names nd (k := n) (by omega) b1
      have l2 := look_names nd (k := n) (by omega) b3
      rw [b2] at l1
      rw [b4] at l2
      simp [tieD, l1, l2]
      have ne : place ord p.1 ≠ place ord p.2 := fun e => by rw [e, b4] at b2; omega
      have e1 : [PyData.int ((place ord p.1 : Nat) : Int), PyData.int ((place ord p.2 : Nat) : Int)] = natsD [place ord p.1, place ord p.2] := rfl
      have e2 : sortedD (natsD [place ord p.1, place ord p.2]) = natsD (toRow (fp ord p)) := by
        refine sortedD_nats ?_ ?_
        · unfold toRow fp
          rcases Nat.lt_or_gt_of_ne ne with c | c
          · rw [Nat.min_eq_left (by omega), Nat.max_eq_right (by omega)]
          · simp only
            rw [Nat.min_eq_right (by omega), Nat.max_eq_left (by omega)]
            exact List.Perm.swap _ _ _
        · unfold toRow fp
          simp
          omega
      rw [e1, e2]
      refine ⟨?_, q⟩
      rw [natsD_ints]
      exact sortOk_ints _ (by simp)
    · simp
      have e1 : (ts.map fun x => rowD (toRow (fp ord x))) = (ts.map fun p => toRow (fp ord p)).map rowD := by rw [List.map_map]; rfl
      have e2 : (us.map toRow).map rowD = us.map tieD := by
        rw [List.map_map]
        rfl
      refine ⟨?_, ?_⟩
      · rw [e1]
        refine sortOk_rows (fun l hl' => ?_) (by simp; omega)
        obtain ⟨p, _, rfl⟩ := List.mem_map.mp hl'
        simp [toRow]
      · rw [e1, sortedD_rows h1 h2, e2]
        exact h us hu
  · exact h.elim
end K87

set_option Elab.async false
set_option linter.all false
set_option maxRecDepth 100000
set_option maxHeartbeats 1000000
namespace K87
open PySem PySem.Spec PyProof.Rows L2 DC G
/-- a row: what it tells, its things -/
def trD (p : List Nat × List Nat) : PyData := .tuple [rowT p.1, rowT p.2]
theorem bits_bound (ts : List (Nat × Nat)) : ∀ (k : Nat) (r : List Nat), r.length = k → (bitsR ts r).length ≤ k * k
  | 0, r, h => by rw [List.eq_nil_of_length_eq_zero h]; exact Nat.le_refl _
  | k + 1, r, h => by
    obtain ⟨r', t, rfl⟩ : ∃ r' t, r = r' ++ [t] := ⟨r.dropLast, r.getLast (fun e => by rw [e] at h; cases h), (List.dropLast_concat_getLast _).symm⟩
    rw [List.length_append, List.length_singleton] at h
    have := bits_bound ts k r' (by omega)
    rw [bitsR_snoc, List.length_append, col_len, Nat.mul_add, Nat.add_mul]
    omega
def ext1 (n : Nat) (ts : List (Nat × Nat)) (p : List Nat × List Nat) : List (List Nat × List Nat) := ((List.range n).filter fun t => decide (t ∉ p.2)).map fun t => (p.1 ++ col ts p.2 t, p.2 ++ [t])
theorem ext1_len (n : Nat) (ts : List (Nat × Nat)) (h7 : n ≤ 7) (l : List (List Nat × List Nat)) : (l.flatMap (ext1 n ts)).length ≤ 7 * l.length := by
  induction l with
  | nil => simp
  | cons a r ih =>
    rw [List.flatMap_cons, List.length_append, List.length_cons]
    have : (ext1 n ts a).length ≤ 7 := by
      unfold ext1
      rw [List.length_map]
      have := List.length_filter_le (fun t => decide (t ∉ a.2)) (List.range n)
      rw [List.length_range] at this
      omega
    omega
theorem lp1_ok {C : Addr} {n k : Nat} {ts : List (Nat × Nat)} {D : DEnds} {p : List Nat × List Nat} {acc : List (List Nat × List Nat)} {x2 x3 x7 x8 x10 : Sl} (ok : Ok n ts) (h7 : n ≤ 7) (hk : k < n) (hp : Best n k ts p.2) (hb : p.1 = bitsR ts p.2) (hl : acc.length ≤ 1000000)
    (hD : ∀ x7 x8, D.nx [.fz (webD n ts), .ob C (tiesF n ts), x2, x3, .ow ((acc ++ ext1 n ts p).map trD), .fz (rowT p.1), .fz (rowT p.2), x7, x8, .un, x10]) :
    lp1_first_form_of C D [.fz (webD n ts), .ob C (tiesF n ts), x2, x3, .ow (acc.map trD), .fz (rowT p.1), .fz (rowT p.2), x7, x8, .un, x10] := by
  have n10 := ok.n10
  unfold lp1_first_form_of
  simp [webD]
  refine ⟨by omega, forD_inv (fun i ρ => ∃ x7 x8, ρ = [.fz (webD n ts), .ob C (tiesF n ts), x2, x3, .ow ((acc ++ ((List.range i).filter fun t => decide (t ∉ p.2)).map fun t => (p.1 ++ col ts p.2 t, p.2 ++ [t])).map trD), .fz (rowT p.1), .fz (rowT p.2), x7, x8, .un, x10]) ⟨x7, x8, by simp [webD]⟩ ?_ ?_⟩
  · rintro i d ρ hd ⟨x7, x8, rfl⟩ N hN
    have hi : i < n := by
      have := (List.getElem?_eq_some_iff.mp hd).1
      simpa using this
    have hd' : d = .int (i : Int) := by
      rw [List.getElem?_map, List.getElem?_range (by omega)] at hd
      simpa using (Option.some.inj hd).symm
    subst hd'
    have pl := hp.1.1
    simp [rowT]
    refine ⟨p.2.map fun i : Nat => (i : Int), natsD_ints p.2, ?_⟩
    by_cases c1 : i ∈ p.2
    · have : ((i : Nat) : Int) ∈ p.2.map fun i : Nat => (i : Int) := List.mem_map.mpr ⟨i, c1, rfl⟩
      rw [if_pos this]
      refine hN _ ⟨.fz (.int (i : Int)), x8, ?_⟩
      rw [List.range_succ, List.filter_append]
      simp [c1, rowT]
    · have : ¬ ((i : Nat) : Int) ∈ p.2.map fun i : Nat => (i : Int) := fun z => by
        obtain ⟨x, hx, e⟩ := List.mem_map.mp z
        have : x = i := by omega
        subst this
        exact c1 hx
      rw [if_neg this]
      refine ⟨by omega, lcD_map (fun j : Nat => .int (j : Int)) (fun o => some (.int ((if tied ts i o = true then 1 else 0 : Nat) : Int))) (xs := p.2) (fun o ho M q => ?_) ?_⟩
      · have ho' := hp.1.2.2 o ho
        simp [-List.lookup_eq_none_iff, S_Ties_are_tied]
        refine ⟨n, ts, rfl, ok, i, rfl, o, rfl, hi, ?_⟩
        cases z : tied ts i o <;> simpa [z, rowT] using q
      · simp
        have bb := bits_bound ts k p.2 pl
        have kk : k * k ≤ 7 * 7 := Nat.mul_le_mul (by omega) (by omega)
        rw [← hb] at bb
        refine ⟨by omega, by omega, ?_, hN _ ⟨.fz (.int (i : Int)), .fz (rowT (col ts p.2 i)), ?_⟩⟩
        · have := List.length_filter_le (fun t => !decide (t ∈ p.2)) (List.range i)
          rw [List.length_range] at this
          omega
        · rw [List.range_succ, List.filter_append]
          simp [c1, trD, rowT, natsD, col]
  · rintro ρ ⟨x7, x8, rfl⟩
    simp
    have := hD x7 x8
    unfold ext1 at this
    simpa using this
theorem lp2_ok {C : Addr} {n k : Nat} {ts : List (Nat × Nat)} {D : DEnds} {rows : List (List Nat × List Nat)} {x3 x5 x6 x7 x8 x10 : Sl} (ok : Ok n ts) (h7 : n ≤ 7) (hk : k < n) (hR : ∀ p, p ∈ rows ↔ Best n k ts p.2 ∧ p.1 = bitsR ts p.2) (hl : rows.length ≤ 117649) (hne : rows ≠ [])
    (hD : ∀ a b x7 x8, D.nx [.fz (webD n ts), .ob C (tiesF n ts), .fz (.list (rows.map trD)), x3, .ow ((rows.flatMap (ext1 n ts)).map trD), .fz a, .fz b, x7, x8, .un, x10]) :
    lp2_first_form_of C D [.fz (webD n ts), .ob C (tiesF n ts), .fz (.list (rows.map trD)), x3, .ow [], x5, x6, x7, x8, .un, x10] := by
  unfold lp2_first_form_of
  simp
  refine forD_inv (fun i ρ => ∃ x5 x6 x7 x8, (0 < i → ∃ a b, x5 = .fz a ∧ x6 = .fz b) ∧ ρ = [.fz (webD n ts), .ob C (tiesF n ts), .fz (.list (rows.map trD)), x3, .ow (((rows.take i).flatMap (ext1 n ts)).map trD), x5, x6, x7, x8, .un, x10]) ⟨x5, x6, x7, x8, fun z => absurd z (Nat.lt_irrefl _), rfl⟩ ?_ ?_
  · rintro i d ρ hd ⟨x5, x6, x7, x8, _, rfl⟩ N hN
    rw [List.getElem?_map] at hd
    cases e : rows[i]? with
    | none => rw [e] at hd; cases hd
    | some p =>
      rw [e] at hd
      cases hd
      obtain ⟨h1, h2⟩ := (hR p).mp (List.mem_of_getElem? e)
      have bnd := ext1_len n ts h7 (rows.take i)
      have tl : (rows.take i).length ≤ rows.length := by rw [List.length_take]; omega
      simp [trD]
      refine lp1_ok ok h7 hk h1 h2 (by omega) fun x7 x8 => hN _ ⟨.fz (rowT p.1), .fz (rowT p.2), x7, x8, fun _ => ⟨_, _, rfl, rfl⟩, ?_⟩
      have e3 : rows.take (i + 1) = rows.take i ++ [p] := by
        rw [List.take_add_one, e]
        rfl
      rw [e3, List.flatMap_append, List.flatMap_singleton]
  · rintro ρ ⟨x5, x6, x7, x8, hx, rfl⟩
    rw [List.length_map] at hx ⊢
    rw [List.take_length]
    obtain ⟨a, b, rfl, rfl⟩ := hx (List.length_pos_iff.mpr hne)
    exact hD a b x7 x8
theorem rows_ints (F : List (List Nat × List Nat)) : (F.map fun p => p.1.map fun i : Nat => (i : Int)).map intsT = F.map fun p => rowT p.1 := by
  rw [List.map_map]
  refine List.map_congr_left fun p _ => ?_
  simp only [Function.comp, intsT, rowT, natsD_ints]
theorem rows_min : ∀ (F : List (List Nat × List Nat)), (∃ p, p ∈ F) → ∃ m, (∃ p ∈ F, p.1 = m) ∧ ∀ p ∈ F, m ≤ p.1
  | [], ⟨_, h⟩ => by cases h
  | [a], _ => ⟨a.1, ⟨a, by simp, rfl⟩, fun p hp => by rw [List.mem_singleton.mp hp]; exact List.le_refl _⟩
  | a :: b :: r, _ => by
    obtain ⟨m, ⟨p, hp, e⟩, h⟩ := rows_min (b :: r) ⟨b, by simp⟩
    by_cases c : a.1 ≤ m
    · exact ⟨a.1, ⟨a, by simp, rfl⟩, fun q hq => (List.mem_cons.mp hq).elim (fun e => by rw [e]; exact List.le_refl _) fun z => List.le_trans c (h q z)⟩
    · have c : m ≤ a.1 := (List.le_total a.1 m).resolve_left c
      exact ⟨m, ⟨p, List.mem_cons_of_mem _ hp, e⟩, fun q hq => (List.mem_cons.mp hq).elim (fun e => by rw [e]; exact c) (h q)⟩
theorem natsD_inj : ∀ {a b : List Nat}, natsD a = natsD b → a = b
  | [], [], _ => rfl
  | [], _ :: _, e => by cases e
  | _ :: _, [], e => by cases e
  | x :: a, y :: b, e => by
    unfold natsD at e
    rw [List.map_cons, List.map_cons] at e
    injection e with e1 e2
    injection e1 with e1
    rw [Int.ofNat.inj e1, natsD_inj (a := a) (b := b) e2]
theorem min_rows {F : List (List Nat × List Nat)} {p0 : List Nat × List Nat} {F' : List (List Nat × List Nat)} {m : List Nat} (eF : F = p0 :: F') (hm : ∃ p ∈ F, p.1 = m) (hmin : ∀ p ∈ F, m ≤ p.1) : PySem.W.minD (rowT p0.1) (F'.map fun p => rowT p.1) = rowT m := by
  have e1 : rowT p0.1 = intsT (p0.1.map fun i : Nat => (i : Int)) := by simp only [intsT, rowT, natsD_ints]
  rw [← rows_ints F', e1, minD_rows]
  obtain ⟨h1, h2⟩ := fold_least (F'.map fun p => p.1.map fun i : Nat => (i : Int)) (p0.1.map fun i : Nat => (i : Int))
  generalize (F'.map fun p => p.1.map fun i : Nat => (i : Int)).foldl (fun a y => if y < a then y else a) (p0.1.map fun i : Nat => (i : Int)) = z at h1 h2
  have e2 : (p0.1.map fun i : Nat => (i : Int)) :: (F'.map fun p => p.1.map fun i : Nat => (i : Int)) = F.map fun p => p.1.map fun i : Nat => (i : Int) := by rw [eF]; rfl
  rw [e2] at h1 h2
  obtain ⟨q, hq, rfl⟩ := List.mem_map.mp h1
  obtain ⟨p, hp, rfl⟩ := hm
  have a1 := h2 _ (List.mem_map.mpr ⟨p, hp, rfl⟩)
  have a2 := hmin q hq
  have : q.1 = p.1 := by
    refine List.le_antisymm ?_ a2
    rcases List.le_total q.1 p.1 with c | c
    · exact c
    · rcases List.le_iff_lt_or_eq.mp c with c | c
      · exact absurd ((cast_lt _ _).mpr c) (List.not_lt.mpr a1)
      · rw [c]; exact List.le_refl _
  rw [this]
  simp only [intsT, rowT, natsD_ints]
theorem vc_first_form_of (C_Ties : Addr) : vS_first_form_of C_Ties := by
  intro as Q h
  unfold S_first_form_of at h
  split at h
  · obtain ⟨n, ts, rfl, ok, h7, h⟩ := h
    have n10 := ok.n10
    simp [w_first_form_of, wMake_Ties]
    refine ⟨n, ts, rfl, ok, ?_⟩
    unfold tl1_first_form_of
    simp
    unfold tl2_first_form_of
    simp
    unfold lp3_first_form_of
    simp [webD]
    refine ⟨by omega, forD_inv (fun k ρ => ∃ (rows : List (List Nat × List Nat)) (x3 x4 x5 x6 x7 x8 x10 : Sl), (∀ p, p ∈ rows ↔ Best n k ts p.2 ∧ p.1 = bitsR ts p.2) ∧ rows ≠ [] ∧ rows.length ≤ 7 ^ k ∧ ρ = [.fz (webD n ts), .ob C_Ties (tiesF n ts), .fz (.list (rows.map trD)), x3, x4, x5, x6, x7, x8, .un, x10]) ⟨[([], [])], _, _, _, _, _, _, _, ?_, by simp, by simp, rfl⟩ ?_ ?_⟩
    · intro p
      rw [List.mem_singleton, best_nil]
      constructor
      · rintro rfl; exact ⟨rfl, rfl⟩
      · rintro ⟨h1, h2⟩
        obtain ⟨a, b⟩ := p
        simp only at h1 h2
        subst h1
        rw [h2]
        rfl
    · rintro k d ρ hd ⟨rows, x3, x4, x5, x6, x7, x8, x10, hR, hne, hl, rfl⟩ N hN
      have hk : k < n := by
        have := (List.getElem?_eq_some_iff.mp hd).1
        simpa using this
      have hd' : d = .int (k : Int) := by
        rw [List.getElem?_map, List.getElem?_range (by omega)] at hd
        simpa using (Option.some.inj hd).symm
      subst hd'
      simp
      have p7 : 7 ^ k ≤ 7 ^ 6 := Nat.pow_le_pow_right (by decide) (by omega)
      refine lp2_ok ok h7 hk hR (by omega) hne fun a5 a6 x7 x8 => ?_
      have lf := ext1_len n ts h7 rows
      have hF : ∀ p, p ∈ rows.flatMap (ext1 n ts) ↔ ∃ r t, (Best n k ts r ∧ t ∉ r ∧ t < n) ∧ p = (bitsR ts (r ++ [t]), r ++ [t]) := fun p => by
        rw [List.mem_flatMap]
        constructor
        · rintro ⟨q, hq, h1⟩
          obtain ⟨t, ht, rfl⟩ := List.mem_map.mp h1
          obtain ⟨b1, b2⟩ := (hR q).mp hq
          rw [List.mem_filter, List.mem_range, decide_eq_true_eq] at ht
          exact ⟨q.2, t, ⟨b1, ht.2, ht.1⟩, by rw [bitsR_snoc, b2]⟩
        · rintro ⟨r, t, ⟨b1, b2, b3⟩, rfl⟩
          refine ⟨(bitsR ts r, r), (hR _).mpr ⟨b1, rfl⟩, List.mem_map.mpr ⟨t, List.mem_filter.mpr ⟨List.mem_range.mpr b3, decide_eq_true b2⟩, by rw [bitsR_snoc]⟩⟩
      generalize rows.flatMap (ext1 n ts) = F at hF lf
      have ex : ∃ r t, Best n k ts r ∧ t ∉ r ∧ t < n := by
        cases rows with
        | nil => exact absurd rfl hne
        | cons p r =>
          have b := ((hR p).mp (by simp)).1
          obtain ⟨t, h1, h2⟩ := pre_left b.1 hk
          exact ⟨p.2, t, b, h1, h2⟩
      obtain ⟨m, hm, hmin⟩ : ∃ m, (∃ p ∈ F, p.1 = m) ∧ ∀ p ∈ F, m ≤ p.1 := by
        obtain ⟨r, t, h1, h2⟩ := ex
        have hf := (hF (bitsR ts (r ++ [t]), r ++ [t])).mpr ⟨r, t, ⟨h1, h2⟩, rfl⟩
        exact rows_min F ⟨_, hf⟩
      simp
      refine ⟨by omega, lcD_map trD (fun p => some (rowT p.1)) (fun p hp M q => by simpa [trD] using q) ?_⟩
      simp
      obtain ⟨p0, F', eF⟩ : ∃ p0 F', F = p0 :: F' := by
        cases F with
        | nil => obtain ⟨p, hp, _⟩ := hm; cases hp
        | cons a b => exact ⟨a, b, rfl⟩
      refine ⟨rowT p0.1, F'.map fun p => rowT p.1, by rw [eF]; rfl, ?_, ?_, ?_⟩
      · have := alike_rows ((p0 :: F').map fun p => p.1.map fun i : Nat => (i : Int))
        rw [rows_ints] at this
        simpa using this
      · have := DC.depth_rows ((p0 :: F').map fun p => p.1.map fun i : Nat => (i : Int))
        rw [rows_ints] at this
        simpa using this
      · have em : PySem.W.minD (rowT p0.1) (F'.map fun p => rowT p.1) = rowT m := by
          exact min_rows eF hm hmin
        rw [em]
        refine ⟨by omega, lcD_map trD (fun p => if p.1 = m then some (trD p) else none) (fun p hp M q => ?_) ?_⟩
        · have s1 : SeqAt.shaped (rowT p.1) = true := shaped_pl (plD_rowT _) (by have := depth_rowT p.1; omega)
          have s2 : SeqAt.shaped (rowT m) = true := shaped_pl (plD_rowT _) (by have := depth_rowT m; omega)
          have ev : PyData.eqv (.tuple (natsD p.1)) (.tuple (natsD m)) = true ↔ p.1 = m := by
            refine Iff.trans (plD_eqv _ _ (plD_rowT p.1) (plD_rowT m)) ⟨fun e => ?_, fun e => by rw [e]⟩
            unfold rowT at e
            injection e with e
            exact natsD_inj e
          simp [trD, rowT]
          refine ⟨⟨s1, s2⟩, ?_⟩
          by_cases z : p.1 = m
          · rw [if_pos (ev.mpr z)]
            rw [if_pos z] at q
            simpa [trD, rowT] using q
          · rw [if_neg fun y => z (ev.mp y)]
            rw [if_neg z] at q
            simpa [trD, rowT] using q
        · simp
          have e2 : F.filterMap (fun p => if p.1 = m then some (trD p) else none) = (F.filter fun p => decide (p.1 = m)).map trD := by
            rw [← List.filterMap_eq_map, ← List.filterMap_eq_filter, List.filterMap_filterMap]
            congr 1
            funext p
            by_cases z : p.1 = m <;> simp [z, Option.guard]
          rw [e2]
          refine hN _ ⟨F.filter fun p => decide (p.1 = m), .fz (.int (k : Int)), .fz (.list (F.map trD)), .fz a5, .fz a6, x7, x8, .fz (rowT m), fun p => ?_, ?_, ?_, rfl⟩
          · rw [List.mem_filter, decide_eq_true_eq]
            have eqb : ∀ {r s : List Nat}, Best n k ts r → Best n k ts s → bitsR ts r = bitsR ts s := fun a b => List.le_antisymm (a.2 _ b.1) (b.2 _ a.1)
            constructor
            · rintro ⟨hp, e⟩
              obtain ⟨r, t, hb, rfl⟩ := (hF p).mp hp
              refine ⟨(best_snoc ex).mpr ⟨hb, fun r' t' b' n' l' => ?_⟩, rfl⟩
              have := hmin _ ((hF (bitsR ts (r' ++ [t']), r' ++ [t'])).mpr ⟨r', t', ⟨b', n', l'⟩, rfl⟩)
              simp only at this e
              rw [← e, bitsR_snoc, bitsR_snoc, lex_app (bitsR_len ts ts k _ _ hb.1.1.1 b'.1.1)] at this
              rcases this with z | ⟨_, z⟩
              · rw [eqb hb.1 b'] at z
                exact absurd z (List.lt_irrefl _)
              · exact z
            · rintro ⟨hb, e⟩
              obtain ⟨r, t, e2⟩ := pre_split hb.1
              obtain ⟨p1, p2⟩ := p
              simp only at hb e e2
              subst e2
              subst e
              have h1 := ((best_snoc ex).mp hb).1
              have hp := (hF (bitsR ts (r ++ [t]), r ++ [t])).mpr ⟨r, t, h1, rfl⟩
              refine ⟨hp, List.le_antisymm ?_ (hmin _ hp)⟩
              obtain ⟨q, hq, rfl⟩ := hm
              obtain ⟨r', t', ⟨b1, b2, b3⟩, rfl⟩ := (hF q).mp hq
              exact hb.2 _ (pre_snoc.mpr ⟨b1.1, b2, b3⟩)
          · obtain ⟨q, hq, e⟩ := hm
            intro z
            have : q ∈ F.filter fun p => decide (p.1 = m) := List.mem_filter.mpr ⟨hq, decide_eq_true e⟩
            rw [z] at this
            cases this
          · have := List.length_filter_le (fun p : List Nat × List Nat => decide (p.1 = m)) F
            rw [Nat.pow_succ]
            omega
    · rintro ρ ⟨rows, x3, x4, x5, x6, x7, x8, x10, hR, hne, hl, rfl⟩
      simp at hR hl
      unfold tl3_first_form_of
      cases rows with
      | nil => exact absurd rfl hne
      | cons p r =>
        have := (hR p.1 p.2).mp (by simp)
        simp [trD, atI, ixN]
        exact h _ this.1
  · exact h.elim
end K87

set_option Elab.async false
set_option linter.all false
set_option maxRecDepth 100000
set_option maxHeartbeats 1000000
namespace K87
open PySem PySem.Spec PyProof.Rows L2 DC G
theorem vc__law_right (C_Likeness C_Ties : Addr) : vS__law_right C_Likeness C_Ties := by
  intro fs as Q h a
  unfold S__law_right at h
  split at h
  · obtain ⟨B, n, ts, hf, hB, rfl, ok, h7, h⟩ := h
    have n10 := ok.n10
    have hD : ∀ fs ρ, Fd (B + 20) fs → (⟨fun _ => False, fun r ρ => ∃ d fs', r.dat = some d ∧ ρ[0]? = some (.bw a fs') ∧ Q d fs', fun _ => False, fun _ => False⟩ : DEnds).rt (.fz (.bool true)) (.bw a fs :: ρ) := fun fs ρ hf => ⟨_, _, rfl, rfl, h _ hf⟩
    generalize (⟨fun _ => False, fun r ρ => ∃ d fs', r.dat = some d ∧ ρ[0]? = some (.bw a fs') ∧ Q d fs', fun _ => False, fun _ => False⟩ : DEnds) = D at hD
    have rw1 := rep_web ok
    simp [w__law_right, S__law_first]
    refine ⟨⟨rw1.sh, by have := rw1.ln; omega, by have := rw1.dp; omega, rw1.nd⟩, n, ts, rfl, ok, h7, fun due hd => ?_⟩
    unfold tl1__law_right
    simp [webD, S__law_mixed, S_renamed]
    refine ⟨by omega, B, hf, by omega, by omega, fun ds' fs2 hp hf2 => ?_⟩
    obtain ⟨ord, rfl, hpo⟩ := nats_perm hp
    refine ⟨n, ts, ⟨rfl, rfl⟩, ok, ord, rfl, hpo, fun us hu => ?_⟩
    have okd : Ok n due := by obtain ⟨o, _, e⟩ := hd; exact e.ok
    unfold tl2__law_right
    simp [S_first_form]
    refine ⟨n, ts, rfl, ok, h7, fun d1 e1 => ?_⟩
    obtain rfl := first_unique ok hd e1
    refine ⟨n, ts, rfl, ok, h7, fun d2 e2 => ?_⟩
    obtain rfl := first_unique ok hd e2
    refine ⟨n, us, rfl, hu.ok, h7, fun d3 e3 => ?_⟩
    obtain rfl := first_unique ok hd (first_ren hpo hu e3)
    have hd' := hd
    obtain ⟨o, ob, oe⟩ := hd'
    refine ⟨n, due, rfl, okd, h7, fun d4 e4 => ?_⟩
    obtain rfl := first_unique ok hd (first_ren (pre_perm.mp ob.1) oe e4)
    have rw2 : RepN 8012 4 (.list [webD n due, webD n due, webD n due, webD n due]) := (repN_list (xs := [webD n due, webD n due, webD n due, webD n due]) fun x hx => by
      simp at hx
      rw [hx]
      exact rep_web okd).mono (by simp) (by omega)
    refine ⟨⟨rw2.sh, Nat.le_trans rw2.ln (by omega), Nat.le_trans rw2.dp (by omega), rw2.nd⟩, ⟨rw2.sh, Nat.le_trans rw2.ln (by omega), Nat.le_trans rw2.dp (by omega), rw2.nd⟩, ?_⟩
    refine (if_pos (show (PyData.list [webD n due, webD n due, webD n due, webD n due]).shown = (PyData.list [PyData.tuple [PyData.int n, PyData.tuple (due.map tieD)], PyData.tuple [PyData.int n, PyData.tuple (due.map tieD)], PyData.tuple [PyData.int n, PyData.tuple (due.map tieD)], PyData.tuple [PyData.int n, PyData.tuple (due.map tieD)]]).shown from rfl)).mpr ?_
    unfold tl3__law_right
    simp [S_alike_webs]
    refine ⟨n, ts, rfl, due, rfl, ok, okd, h7, fun o2 ho => ?_⟩
    cases o2 with
    | none => exact absurd ⟨o, pre_perm.mp ob.1, oe⟩ ho
    | some l =>
      obtain ⟨hl, hi⟩ := ho
      unfold tl4__law_right
      simp [optD, S_renamed]
      refine ⟨n, ts, rfl, ok, l, rfl, hl, fun u2 h2 => ?_⟩
      have e : u2 = due := ren_unique (ord := l) (ts := ts) (fun i j hi' hj' => by rw [h2.eq i j hi' hj', hi.eq i j hi' hj']) h2.ok okd
      subst e
      have pw : plD (webD n u2) = true := by
        simp only [webD, plD, plDs, Bool.true_and, Bool.and_true]
        exact plDs_iff.mpr fun d hd => by obtain ⟨x, _, rfl⟩ := List.mem_map.mp hd; simp [tieD, plD, plDs]
      have sw : SeqAt.shaped (webD n u2) = true := shaped_pl pw (Nat.le_trans (rep_web okd).dp (by omega))
      have ev : (webD n u2).eqv (PyData.tuple [PyData.int n, PyData.tuple (u2.map tieD)]) = true := (plD_eqv _ _ pw pw).mpr rfl
      refine ⟨⟨sw, sw⟩, ?_⟩
      rw [ev]
      exact ⟨⟨rw1.sh, Nat.le_trans rw1.ln (by omega), Nat.le_trans rw1.dp (by omega), rw1.nd⟩, hD _ _ (hf2.up (by omega))⟩
  · exact h.elim
theorem vc_law (C_Likeness C_Ties : Addr) : vS_law C_Likeness C_Ties := by
  intro as Q h
  unfold S_law at h
  split at h
  · obtain ⟨ns, rfl, hl, h⟩ := h
    simp [w_law, lp1_law]
    refine ⟨?_, forD_inv (fun i ρ => ∃ x1 x2, ρ = [.fz (.list (ns.map .int)), x1, x2]) ⟨.un, .un, rfl⟩ ?_ ?_⟩
    · constructor
      · split <;> split <;> omega
      · split <;> split <;> omega
    · rintro i d ρ hd ⟨x1, x2, rfl⟩ N hN
      have hil := (List.getElem?_eq_some_iff.mp hd).1
      rw [List.length_map, List.length_range] at hil
      have hi : i ≤ 63 := by
        split at hil <;> split at hil <;> omega
      have hdi : d = .int (i : Int) := by
        rw [List.getElem?_map, List.getElem?_range hil] at hd
        exact (Option.some.inj hd).symm
      subst hdi
      simp [S__law_feed]
      refine ⟨ns, rfl, by omega, by omega, fun fs hf => ?_⟩
      simp [S__law_web, S__law_right, S__law_one, S__law_watch_right]
      refine ⟨0, hf, 6, rfl, by omega, by omega, fun k ts fs1 ok hk hf1 => ?_⟩
      refine ⟨_, hf1, by omega, k, ts, rfl, ok, by omega, fun fs2 hf2 => ?_⟩
      refine ⟨_, hf2, by omega, fun d fs3 hd hf3 => ?_⟩
      have : ∃ m : Nat, d = .int (m : Int) ∧ 1 ≤ m ∧ m ≤ 7 := by
        rcases hd with rfl | rfl
        · exact ⟨5, rfl, by omega, by omega⟩
        · exact ⟨7, rfl, by omega, by omega⟩
      obtain ⟨m, rfl, m1, m7⟩ := this
      simp
      refine ⟨_, hf3, m, rfl, by omega, by omega, fun k2 ts2 fs4 ok2 hk2 hf4 => ?_⟩
      refine ⟨_, hf4, by omega, k2, ts2, rfl, ok2, by omega, fun fs5 hf5 => ?_⟩
      refine ⟨_, hf5, 7, rfl, by omega, by omega, fun k3 ts3 fs6 ok3 hk3 hf6 => ?_⟩
      refine ⟨k3, ts3, rfl, ok3, ?_⟩
      refine ⟨_, hf6, 10, rfl, by omega, by omega, fun k4 ts4 fs7 ok4 hk4 hf7 => ?_⟩
      exact ⟨k4, ts4, rfl, ok4, hN _ ⟨_, _, rfl⟩⟩
    · rintro ρ ⟨x1, x2, rfl⟩
      simpa using h
  · exact h.elim
end K87

set_option Elab.async false
set_option linter.all false
set_option maxRecDepth 100000
set_option maxHeartbeats 1000000
/-! data that stand for something ordered: least ones, sorted ones -/
namespace G
open PySem PySem.Spec PyProof.Rows L2 DC
/-- enc tells le -/
structure EncLe {α : Type} (enc : α → PyData) (le : α → α → Bool) : Prop where
  dat : ∀ a b, PySem.W.dataLe false id (enc a) (enc b) = le a b
  tot : ∀ a b, (le a b || le b a) = true
  tr : ∀ a b c, le a b = true → le b c = true → le a c = true
  anti : ∀ {a b}, le a b = true → le b a = true → a = b
  alk : ∀ a b, PySem.W.alike (enc a) (enc b) = true
  dep : ∀ a, (enc a).depth ≤ 60
  nn : ∀ a, enc a ≠ .none
theorem EncLe.lt {α : Type} {enc : α → PyData} {le : α → α → Bool} (h : EncLe enc le) (a b : α) : PySem.W.dataLt (enc b) (enc a) = !le a b := by
  have := h.dat a b
  have e : PySem.W.dataLe false id (enc a) (enc b) = !PySem.W.dataLt (enc b) (enc a) := rfl
  rw [e] at this
  rw [← this, Bool.not_not]
theorem EncLe.min {α : Type} {enc : α → PyData} {le : α → α → Bool} (h : EncLe enc le) {m : α} : ∀ {xs : List α} {x : α}, m ∈ x :: xs → (∀ y ∈ x :: xs, le m y = true) → PySem.W.minD (enc x) (xs.map enc) = enc m := by
  intro xs
  unfold PySem.W.minD
  induction xs with
  | nil =>
    intro x hm _
    rw [List.mem_singleton.mp hm]
    rfl
  | cons y r ih =>
    intro x hm hl
    rw [List.map_cons, List.foldl_cons, h.lt]
    cases c : le x y with
    | true =>
      simp only [Bool.not_true, Bool.false_eq_true, if_false]
      refine ih ?_ fun z hz => hl z ?_
      · rcases List.mem_cons.mp hm with e | hm
        · rw [e]; exact List.mem_cons_self
        · rcases List.mem_cons.mp hm with e | hm
          · have := hl x List.mem_cons_self
            rw [e] at this ⊢
            rw [h.anti c this]
            exact List.mem_cons_self
          · exact List.mem_cons_of_mem _ hm
      · rcases List.mem_cons.mp hz with e | hz
        · rw [e]; exact List.mem_cons_self
        · exact List.mem_cons_of_mem _ (List.mem_cons_of_mem _ hz)
    | false =>
      simp only [Bool.not_false, if_true]
      refine ih ?_ fun z hz => hl z (List.mem_cons_of_mem _ hz)
      rcases List.mem_cons.mp hm with e | hm
      · have := hl y (by simp)
        rw [e, c] at this
        cases this
      · exact hm
theorem EncLe.sort {α : Type} {enc : α → PyData} {le : α → α → Bool} (h : EncLe enc le) {L M : List α} (p : M.Perm L) (asc : M.Pairwise fun a b => le a b = true) : sortedD (L.map enc) = M.map enc := by
  have e : sortedD (L.map enc) = (L.mergeSort le).map enc := by
    unfold sortedD
    rw [List.map_mergeSort (r := le) (s := PySem.W.dataLe false id)]
    intro a _ b _
    exact (h.dat a b).symm
  rw [e, List.Perm.eq_of_pairwise (fun a b _ _ z g => h.anti z g) (List.pairwise_mergeSort h.tr h.tot L) asc ((List.mergeSort_perm L le).trans p.symm)]
theorem EncLe.alikes {α : Type} {enc : α → PyData} {le : α → α → Bool} (h : EncLe enc le) (l : List α) : PySem.W.AlikeAll (l.map enc) := by
  refine ⟨fun x hx y hy => ?_, fun x hx e => ?_⟩
  · obtain ⟨a, _, rfl⟩ := List.mem_map.mp hx
    obtain ⟨b, _, rfl⟩ := List.mem_map.mp hy
    exact h.alk a b
  · obtain ⟨a, _, rfl⟩ := List.mem_map.mp hx
    exact h.nn a e
theorem EncLe.deps {α : Type} {enc : α → PyData} {le : α → α → Bool} (h : EncLe enc le) (l : List α) : PyData.depthAll (l.map enc) ≤ 60 := by
  refine depthAll_le fun x hx => ?_
  obtain ⟨a, _, rfl⟩ := List.mem_map.mp hx
  exact h.dep a
theorem EncLe.sortOk {α : Type} {enc : α → PyData} {le : α → α → Bool} (h : EncLe enc le) {L : List α} (ht : ∀ a, ∃ x r, enc a = .tuple (x :: r)) (hl : L.length ≤ 10000000) : SortOk (L.map enc) := by
  refine ⟨fun d hd e he => ?_, .inl fun d hd => ?_, by simpa using hl, fun d hd => ?_⟩
  · obtain ⟨a, _, rfl⟩ := List.mem_map.mp hd
    obtain ⟨b, _, rfl⟩ := List.mem_map.mp he
    exact h.alk a b
  · obtain ⟨a, ha, rfl⟩ := List.mem_map.mp hd
    exact ht a
  · obtain ⟨a, _, rfl⟩ := List.mem_map.mp hd
    exact h.dep a
theorem encRow : EncLe rowD leR where
  dat := dataLe_rowD
  tot := leR_total
  tr := leR_trans
  anti := leR_anti
  alk := alike_rowD
  dep := depth_rowD
  nn := fun a e => by cases e
/-- (size, lot) -/
def lkD (l : List Nat) : PyData := .tuple [.int (l.length : Int), rowD l]
def leK (a b : List Nat) : Bool := decide (a.length < b.length ∨ (a.length = b.length ∧ a ≤ b))
theorem eqv_rowD (a b : List Nat) : PyData.eqv (rowD a) (rowD b) = true ↔ a = b := by
  have pl : ∀ x : List Nat, plD (rowD x) = true := fun x => by
    have : ∀ d ∈ natsD x, plD d = true := fun d hd => by
      obtain ⟨i, _, rfl⟩ := List.mem_map.mp hd
      rfl
    simpa [rowD, plD] using plDs_iff.mpr this
  refine (plD_eqv _ _ (pl a) (pl b)).trans ⟨fun e => ?_, fun e => by rw [e]⟩
  unfold rowD at e
  injection e with e
  exact natsD_inj e
theorem encKey : EncLe lkD leK where
  dat := fun a b => by
    show (!PySem.W.dataLt (lkD b) (lkD a)) = _
    unfold lkD
    rw [PySem.W.dataLt_pair (by simp [PySem.W.alike]) (alike_rowD b a), PySem.W.dataLt_int]
    have e1 : PySem.W.dataLt (rowD b) (rowD a) = !leR a b := encRow.lt a b
    rw [e1]
    simp only [PyData.eqv, beq_iff_eq]
    unfold leK
    by_cases c : a.length = b.length
    · rw [if_pos (by omega)]
      by_cases d : PyData.eqv (rowD b) (rowD a) = true
      · rw [if_pos d]
        have := (eqv_rowD b a).mp d
        subst this
        simp
      · rw [if_neg d]
        simp [c, leR]
    · rw [if_neg (by omega)]
      rw [Bool.eq_iff_iff]
      simp only [Bool.not_eq_true', decide_eq_false_iff_not, decide_eq_true_eq, c, false_and, or_false]
      omega
  tot := fun a b => by
    unfold leK
    simp only [Bool.or_eq_true, decide_eq_true_eq]
    have := List.le_total a b
    rcases Nat.lt_trichotomy a.length b.length with c | c | c
    · exact .inl (.inl c)
    · rcases this with d | d
      · exact .inl (.inr ⟨c, d⟩)
      · exact .inr (.inr ⟨c.symm, d⟩)
    · exact .inr (.inl c)
  tr := fun a b c => by
    unfold leK
    simp only [decide_eq_true_eq]
    rintro (h | ⟨h, h2⟩) (g | ⟨g, g2⟩)
    · exact .inl (by omega)
    · exact .inl (by omega)
    · exact .inl (by omega)
    · exact .inr ⟨by omega, List.le_trans h2 g2⟩
  anti := fun {a b} => by
    unfold leK
    simp only [decide_eq_true_eq]
    rintro (h | ⟨h, h2⟩) (g | ⟨g, g2⟩)
    · omega
    · omega
    · omega
    · exact List.le_antisymm h2 g2
  alk := fun a b => by
    have := alike_rowD a b
    simp [lkD, PySem.W.alike, PySem.W.alikeAll, this]
  dep := fun a => by
    have := PySem.W.depth_ints (a.map fun i : Nat => (i : Int))
    unfold lkD rowD
    rw [natsD_ints]
    simp only [PyData.depth, PyData.depthAll]
    omega
  nn := fun a e => by cases e
end G

set_option Elab.async false
set_option linter.all false
set_option maxRecDepth 100000
set_option maxHeartbeats 1000000
namespace K87
open PySem PySem.Spec PyProof.Rows L2 DC G
/-- what is watched from m -/
def seenM (ts : List (Nat × Nat)) (m : Nat) : Nat := m ||| orNb ts (bits m)
theorem seenM_full {n : Nat} {ts : List (Nat × Nat)} (ok : Ok n ts) {m : Nat} (hm : m < 2 ^ n) : seenM ts m = full n ↔ Watches n ts (bits m) := by
  have m16 := pow_16 hm ok.n10
  unfold seenM
  constructor
  · intro e v hv
    have h := testBit_full n v
    rw [← e, Nat.testBit_or, decide_eq_true hv, Bool.or_eq_true] at h
    rcases h with h | h
    · exact .inl ((mem_bits m16).mpr h)
    · obtain ⟨u, hu, ht⟩ := (bit_orNb ok v _).mp h
      exact .inr ⟨u, hu, by rw [G.tied_symm]; exact ht⟩
  · intro h
    refine eq_of_bits fun i => ?_
    rw [testBit_full, decide_eq_true_eq, Nat.testBit_or, Bool.or_eq_true, bit_orNb ok]
    constructor
    · rintro (z | ⟨u, _, z⟩)
      · exact bit_lt hm z
      · exact (ok.tl z).2.1
    · intro hi
      rcases h i hi with z | ⟨u, hu, z⟩
      · exact .inl ((mem_bits m16).mp z)
      · exact .inr ⟨u, hu, by rw [G.tied_symm]; exact z⟩
theorem lot_mask {n : Nat} (hn : n ≤ 10) {l : List Nat} (h : IsLot n l) : ∃ m, m < 2 ^ n ∧ bits m = l := ⟨orAll 0 l, orAll_lt h.2, bits_orAll h.1 fun x hx => by have := h.2 x hx; omega⟩
theorem mask_lot {n : Nat} (hn : n ≤ 10) {m : Nat} (h : m < 2 ^ n) : IsLot n (bits m) := ⟨asc_bits m, fun x hx => bit_lt h ((mem_bits (pow_16 h hn)).mp hx)⟩
theorem leK_iff {a b : List Nat} : leK a b = true ↔ keyLe a b := decide_eq_true_iff
theorem keyLt_of {a b : List Nat} (h : leK a b = true) (ne : a ≠ b) : keyLt a b := by
  rcases leK_iff.mp h with h | ⟨h, g⟩
  · exact .inl h
  · exact .inr ⟨h, (List.le_iff_lt_or_eq.mp g).resolve_right ne⟩
theorem keyLe_of {a b : List Nat} (h : keyLt a b) : keyLe a b := by
  rcases h with h | ⟨h, g⟩
  · exact .inl h
  · exact .inr ⟨h, List.le_of_lt g⟩
theorem least_key : ∀ {L : List (List Nat)}, L ≠ [] → ∃ m ∈ L, ∀ y ∈ L, leK m y = true
  | [], h => absurd rfl h
  | [a], _ => ⟨a, by simp, fun y hy => by
      rw [List.mem_singleton.mp hy]
      have := encKey.tot a a
      simpa using this⟩
  | a :: b :: r, _ => by
    obtain ⟨m, hm, h⟩ := least_key (L := b :: r) (by simp)
    have t := encKey.tot a m
    rw [Bool.or_eq_true] at t
    rcases t with t | t
    · exact ⟨a, by simp, fun y hy => (List.mem_cons.mp hy).elim (fun e => by
        rw [e]
        have := encKey.tot a a
        simpa using this) fun z => encKey.tr _ _ _ t (h y z)⟩
    · exact ⟨m, List.mem_cons_of_mem _ hm, fun y hy => (List.mem_cons.mp hy).elim (fun e => by rw [e]; exact t) (h y)⟩
theorem lp1_watch {C : Addr} {n m : Nat} {ts : List (Nat × Nat)} {D : DEnds} {x2 x5 : Sl} (ok : Ok n ts) (hm : m < 2 ^ n)
    (hD : ∀ x5, D.nx [.fz (webD n ts), .ob C (tiesF n ts), x2, .fz (.int (m : Int)), .fz (.int (seenM ts m : Nat)), x5]) :
    lp1_watch_lots C D [.fz (webD n ts), .ob C (tiesF n ts), x2, .fz (.int (m : Int)), .fz (.int (m : Int)), x5] := by
  have m16 := pow_16 hm ok.n10
  unfold lp1_watch_lots
  simp [S_things_of]
  refine ⟨m, rfl, m16, ?_⟩
  refine forD_inv (fun i ρ => ∃ x5, ρ = [.fz (webD n ts), .ob C (tiesF n ts), x2, .fz (.int (m : Int)), .fz (.int (m ||| orNb ts ((bits m).take i) : Nat)), x5]) ⟨x5, by simp [orNb]⟩ ?_ ?_
  · rintro i d ρ hd ⟨x5, rfl⟩ N hN
    rw [natsD_get] at hd
    cases hxi : (bits m)[i]? with
    | none => rw [hxi] at hd; cases hd
    | some u =>
      rw [hxi] at hd
      cases hd
      have hu : u < n := (mask_lot ok.n10 hm).2 u (List.mem_of_getElem? hxi)
      have ht : (bits m).take (i + 1) = (bits m).take i ++ [u] := by rw [List.take_add_one, hxi]; rfl
      have hN2 := hN _ ⟨.fz (.int (u : Int)), rfl⟩
      rw [ht, orNb_snoc, ← Nat.or_assoc] at hN2
      simp [G.to_at hu]
      exact hN2
  · rintro ρ ⟨x5, rfl⟩
    rw [natsD_len, List.take_length]
    exact hD x5
theorem vc_watch_lots (C_Ties : Addr) : vS_watch_lots C_Ties := by
  intro as Q h
  unfold S_watch_lots at h
  split at h
  · obtain ⟨n, ts, rfl, ok, h⟩ := h
    have n10 := ok.n10
    have p10 : 2 ^ n ≤ 2 ^ 10 := Nat.pow_le_pow_right (by decide) n10
    have fl := full_lt n
    have fe : full n + 1 = 2 ^ n := by unfold full; have := Nat.two_pow_pos n; omega
    simp [w_watch_lots, wMake_Ties]
    refine ⟨n, ts, rfl, ok, ?_⟩
    unfold lp2_watch_lots
    simp
    refine ⟨by omega, forD_inv (fun i ρ => ∃ x3 x4 x5, ρ = [.fz (webD n ts), .ob C_Ties (tiesF n ts), .ow (((List.range i).filter fun m => decide (seenM ts m = full n)).map fun m => lkD (bits m)), x3, x4, x5]) ⟨.un, .un, .un, rfl⟩ ?_ ?_⟩
    · rintro i d ρ hd ⟨x3, x4, x5, rfl⟩ N hN
      have hi := (List.getElem?_eq_some_iff.mp hd).1
      simp at hi
      have hd' : d = .int (i : Int) := by
        rw [List.getElem?_map, List.getElem?_range hi] at hd
        simpa using (Option.some.inj hd).symm
      subst hd'
      simp
      refine lp1_watch ok (by omega) fun x5 => ?_
      simp [S_things_of]
      have fl2 := List.length_filter_le (fun m => decide (seenM ts m = full n)) (List.range i)
      rw [List.length_range] at fl2
      by_cases c : seenM ts i = full n
      · rw [if_pos (by omega)]
        refine ⟨i, rfl, by omega, i, rfl, by omega, by omega, hN _ ⟨.fz (.int (i : Int)), .fz (.int (seenM ts i : Nat)), x5, ?_⟩⟩
        rw [List.range_succ, List.filter_append]
        simp [c, lkD, rowD]
      · rw [if_neg (by omega)]
        refine hN _ ⟨.fz (.int (i : Int)), .fz (.int (seenM ts i : Nat)), x5, ?_⟩
        rw [List.range_succ, List.filter_append]
        simp [c]
    · rintro ρ ⟨x3, x4, x5, rfl⟩
      simp
      rw [fe]
      generalize hL : ((List.range (2 ^ n)).filter fun m => decide (seenM ts m = full n)).map bits = L
      have eL : (((List.range (2 ^ n)).filter fun m => decide (seenM ts m = full n)).map fun m => lkD (bits m)) = L.map lkD := by
        rw [← hL, List.map_map]
        rfl
      have mL : ∀ l, l ∈ L ↔ IsLot n l ∧ Watches n ts l := fun l => by
        rw [← hL, List.mem_map]
        constructor
        · rintro ⟨m, hm, rfl⟩
          obtain ⟨h1, h2⟩ := List.mem_filter.mp hm
          have h1 := List.mem_range.mp h1
          exact ⟨mask_lot n10 h1, (seenM_full ok h1).mp (of_decide_eq_true h2)⟩
        · rintro ⟨h1, h2⟩
          obtain ⟨m, hm, rfl⟩ := lot_mask n10 h1
          exact ⟨m, List.mem_filter.mpr ⟨List.mem_range.mpr hm, decide_eq_true ((seenM_full ok hm).mpr h2)⟩, rfl⟩
      have ne : L ≠ [] := fun e => by
        have := (mL (List.range n)).mpr ⟨⟨List.pairwise_lt_range, fun x hx => List.mem_range.mp hx⟩, fun v hv => .inl (List.mem_range.mpr hv)⟩
        rw [e] at this
        cases this
      rw [eL]
      obtain ⟨b, hb, hmin⟩ := least_key ne
      cases L with
      | nil => exact absurd rfl ne
      | cons x r =>
        have a1 := encKey.alikes (x :: r)
        have a2 := encKey.deps (x :: r)
        refine ⟨_, _, rfl, a1, a2, ?_⟩
        rw [encKey.min hb hmin]
        have hb' := (mL b).mp hb
        simp [lkD, rowD, atI, ixN]
        exact h b ⟨hb'.1, hb'.2, fun l' h1 h2 => leK_iff.mp (hmin l' ((mL l').mpr ⟨h1, h2⟩))⟩
  · exact h.elim
end K87

set_option Elab.async false
set_option linter.all false
set_option maxRecDepth 100000
set_option maxHeartbeats 1000000
/-! small things that many laws need -/
namespace G
open PySem PySem.Spec PyProof.Rows L2 DC
theorem RepN.can {k j : Nat} {d : PyData} (h : RepN k j d) (hk : k ≤ 10000000) (hj : j ≤ 60) : d.showable = true ∧ d.shown.length ≤ 10000000 ∧ d.depth ≤ 60 ∧ d.hasDict = false := ⟨h.sh, Nat.le_trans h.ln hk, Nat.le_trans h.dp hj, h.nd⟩
theorem nats_nil (l : List Nat) : (PyData.list (l.map fun u : Nat => PyData.int (u : Int))).eqv (.list []) = true ↔ l = [] := by
  cases l <;> simp [PyData.eqv, PyData.eqvAll]
theorem shaped_ns (l : List Nat) : SeqAt.shaped (PyData.list (l.map fun u : Nat => PyData.int (u : Int))) = true := shaped_nats l
theorem filt_mapN {α β : Type} (p : α → Prop) [DecidablePred p] (g : α → β) (l : List α) : l.filterMap (fun a => if p a then none else some (g a)) = (l.filter fun a => decide (¬ p a)).map g := by
  induction l with
  | nil => rfl
  | cons a r ih => by_cases e : p a <;> simp [e, ih]
theorem cutP_init {α : Type} (l : List α) (x : α) : cutP (l ++ [x]) none (some (-1)) = l := by
  unfold cutP
  have e : HT.sIx (l ++ [x]).length (l ++ [x]).length (some (-1)) = l.length := by
    simp [HT.sIx]
    omega
  have e2 : HT.sIx (l ++ [x]).length 0 none = 0 := by simp [HT.sIx]
  rw [e, e2]
  simp
theorem cutP_take {α : Type} (l : List α) (k : Nat) (h : k ≤ l.length) : cutP l none (some (k : Int)) = l.take k := by
  unfold cutP
  have e : HT.sIx l.length l.length (some (k : Int)) = k := by
    rw [HT.sIx_nat]
    omega
  have e2 : HT.sIx l.length 0 none = 0 := by simp [HT.sIx]
  rw [e, e2]
  simp
theorem memB_ties (p : Nat × Nat) (ts : List (Nat × Nat)) : memB (tieD p) (ts.map tieD) = decide (p ∈ ts) := by
  rw [show memB (tieD p) (ts.map tieD) = _ from memB_map (fun _ _ => tieD_inj) tie_pl p ts]
  exact decide_eq_decide.mpr Iff.rfl
theorem plDs_ties (ts : List (Nat × Nat)) : plDs (ts.map tieD) = true := plDs_iff.mpr fun d hd => by obtain ⟨x, _, rfl⟩ := List.mem_map.mp hd; exact tie_pl x
theorem tie_mem {n : Nat} {ts : List (Nat × Nat)} (ok : Ok n ts) {a b : Nat} : (min a b, max a b) ∈ ts ↔ tied ts a b = true := by
  rw [tied_iff]
  rcases Nat.lt_trichotomy a b with c | c | c
  · rw [Nat.min_eq_left (by omega), Nat.max_eq_right (by omega)]
    refine ⟨.inl, fun h => h.resolve_right fun z => ?_⟩
    have := ok.tie _ z
    simp only at this
    omega
  · subst c
    rw [Nat.min_self, Nat.max_self, or_self]
  · rw [Nat.min_eq_right (by omega), Nat.max_eq_left (by omega)]
    refine ⟨.inr, fun h => h.resolve_left fun z => ?_⟩
    have := ok.tie _ z
    simp only at this
    omega
theorem min_cast (a b : Nat) : (if (b : Int) < (a : Int) then (b : Int) else (a : Int)) = ((min a b : Nat) : Int) := by
  split <;> omega
theorem max_cast (a b : Nat) : (if (b : Int) > (a : Int) then (b : Int) else (a : Int)) = ((max a b : Nat) : Int) := by
  split <;> omega
theorem EncLe.refl {α : Type} {enc : α → PyData} {le : α → α → Bool} (h : EncLe enc le) (a : α) : le a a = true := by
  have := h.tot a a
  simpa using this
theorem EncLe.least {α : Type} {enc : α → PyData} {le : α → α → Bool} (h : EncLe enc le) : ∀ {L : List α}, L ≠ [] → ∃ m ∈ L, ∀ y ∈ L, le m y = true
  | [], e => absurd rfl e
  | [a], _ => ⟨a, by simp, fun y hy => by
      rw [List.mem_singleton.mp hy]
      exact h.refl a⟩
  | a :: b :: r, _ => by
    obtain ⟨m, hm, g⟩ := h.least (L := b :: r) (by simp)
    have t := h.tot a m
    rw [Bool.or_eq_true] at t
    rcases t with t | t
    · exact ⟨a, by simp, fun y hy => (List.mem_cons.mp hy).elim (fun e => by
        rw [e]
        exact h.refl a) fun z => h.tr _ _ _ t (g y z)⟩
    · exact ⟨m, List.mem_cons_of_mem _ hm, fun y hy => (List.mem_cons.mp hy).elim (fun e => by rw [e]; exact t) (g y)⟩
theorem plD_nats (x : List Nat) : plDs (natsD x) = true := plDs_iff.mpr fun d hd => by
  obtain ⟨i, _, rfl⟩ := List.mem_map.mp hd
  rfl
theorem plD_row (x : List Nat) : plD (rowD x) = true := by simpa [rowD, plD] using plD_nats x
end G

set_option Elab.async false
set_option linter.all false
set_option maxRecDepth 100000
set_option maxHeartbeats 1000000
namespace K87
open PySem PySem.Spec PyProof.Rows L2 DC G
/-- all lots of the things below k, as they are made -/
def lotsTo : Nat → List (List Nat)
  | 0 => [[]]
  | k + 1 => lotsTo k ++ (lotsTo k).map fun l => l ++ [k]
theorem lotsTo_len : ∀ k, (lotsTo k).length = 2 ^ k
  | 0 => rfl
  | k + 1 => by rw [lotsTo, List.length_append, List.length_map, lotsTo_len k, Nat.pow_succ]; omega
theorem isLot_snoc {k : Nat} {l : List Nat} : IsLot (k + 1) l ↔ IsLot k l ∨ ∃ r, IsLot k r ∧ l = r ++ [k] := by
  constructor
  · rintro ⟨h1, h2⟩
    rcases List.eq_nil_or_concat l with rfl | ⟨r, x, rfl⟩
    · exact .inl ⟨h1, by simp⟩
    · rw [List.concat_eq_append] at h1 h2 ⊢
      obtain ⟨a, _, c⟩ := List.pairwise_append.mp h1
      have hx := h2 x (by simp)
      by_cases e : x = k
      · subst e
        exact .inr ⟨r, ⟨a, fun y hy => c y hy x (by simp)⟩, rfl⟩
      · refine .inl ⟨h1, fun y hy => ?_⟩
        rcases List.mem_append.mp hy with hy | hy
        · have := c y hy x (by simp); omega
        · rw [List.mem_singleton.mp hy]; omega
  · rintro (⟨h1, h2⟩ | ⟨r, ⟨h1, h2⟩, rfl⟩)
    · exact ⟨h1, fun x hx => by have := h2 x hx; omega⟩
    · refine ⟨List.pairwise_append.mpr ⟨h1, by simp, fun x hx y hy => ?_⟩, fun x hx => ?_⟩
      · rw [List.mem_singleton.mp hy]; exact h2 x hx
      · rcases List.mem_append.mp hx with hx | hx
        · have := h2 x hx; omega
        · rw [List.mem_singleton.mp hx]; omega
theorem mem_lotsTo : ∀ {k : Nat} {l : List Nat}, l ∈ lotsTo k ↔ IsLot k l
  | 0, l => by
    rw [lotsTo, List.mem_singleton]
    constructor
    · rintro rfl; exact ⟨by simp, by simp⟩
    · rintro ⟨_, h⟩
      cases l with
      | nil => rfl
      | cons a r => have := h a (by simp); omega
  | k + 1, l => by
    rw [lotsTo, List.mem_append, List.mem_map, isLot_snoc, mem_lotsTo]
    constructor
    · rintro (h | ⟨r, hr, rfl⟩)
      · exact .inl h
      · exact .inr ⟨r, mem_lotsTo.mp hr, rfl⟩
    · rintro (h | ⟨r, hr, rfl⟩)
      · exact .inl h
      · exact .inr ⟨r, mem_lotsTo.mpr hr, rfl⟩
theorem nodup_lotsTo : ∀ k, (lotsTo k).Nodup
  | 0 => by simp [lotsTo]
  | k + 1 => by
    rw [lotsTo]
    refine List.nodup_append.mpr ⟨nodup_lotsTo k, ?_, fun a ha b hb e => ?_⟩
    · exact List.pairwise_map.mpr ((nodup_lotsTo k).imp fun {a b} z e => z (List.append_inj_left' e rfl))
    · subst e
      obtain ⟨r, hr, rfl⟩ := List.mem_map.mp hb
      have := (mem_lotsTo.mp ha).2 k (by simp)
      omega
theorem rowT_snoc (l : List Nat) (k : Nat) : PyData.tuple (natsD l ++ [.int (k : Int)]) = rowT (l ++ [k]) := by
  unfold rowT natsD
  rw [List.map_append]
  rfl
theorem vc__law_lots : vS__law_lots := by
  intro as Q h
  unfold S__law_lots at h
  split at h
  · obtain ⟨n, rfl, n10, h⟩ := h
    have p10 : 2 ^ n ≤ 2 ^ 10 := Nat.pow_le_pow_right (by decide) n10
    simp [w__law_lots]
    unfold lp1__law_lots
    simp
    refine forD_inv (fun i ρ => ∃ x2, ρ = [.fz (.list (natsD (List.range n))), .fz (.list ((lotsTo i).map rowT)), x2, .un, .un]) ⟨.un, rfl⟩ ?_ ?_
    · rintro i d ρ hd ⟨x2, rfl⟩ N hN
      have hi : i < n := by
        have := (List.getElem?_eq_some_iff.mp hd).1
        simpa using this
      have hd' : d = .int (i : Int) := by
        rw [natsD_get, List.getElem?_range (by omega)] at hd
        simpa using (Option.some.inj hd).symm
      subst hd'
      have li := lotsTo_len i
      have pi : 2 ^ i ≤ 2 ^ n := Nat.pow_le_pow_right (by decide) (by omega)
      simp
      refine ⟨by omega, lcD_map rowT (fun l => some (rowT (l ++ [i]))) (fun l hl M q => ?_) ?_⟩
      · have hll : l.length ≤ 16 := by
          have := mem_lotsTo.mp hl
          have := nodup_len (zs := l) (n := i) (this.1.imp fun z => by omega) this.2
          omega
        simp [rowT]
        refine ⟨by omega, ?_⟩
        rw [rowT_snoc]
        exact q
      · simp
        refine ⟨by omega, hN _ ⟨.fz (.int (i : Int)), ?_⟩⟩
        rw [lotsTo, List.map_append, List.map_map]
        rfl
    · rintro ρ ⟨x2, rfl⟩
      simp
      have ln := lotsTo_len n
      refine ⟨by omega, lcD_map rowT (fun l => some (lkD l)) (fun l hl M q => ?_) ?_⟩
      · simp [rowT]
        simpa [lkD, rowD, rowT] using q
      · simp
        obtain ⟨M, pM, aM⟩ : ∃ M, M.Perm (lotsTo n) ∧ M.Pairwise fun a b => leK a b = true := ⟨(lotsTo n).mergeSort leK, List.mergeSort_perm _ _, List.pairwise_mergeSort encKey.tr encKey.tot _⟩
        have lM := pM.length_eq
        rw [encKey.sort pM aM]
        refine ⟨encKey.sortOk (fun a => ⟨_, _, rfl⟩) (by omega), by simp; omega, lcD_map lkD (fun l => some (rowT l)) (fun l hl N q => ?_) ?_⟩
        · simp [lkD, rowD]
          simpa [rowT] using q
        · simp
          have nd : M.Nodup := pM.nodup_iff.mpr (nodup_lotsTo n)
          refine h M ?_ (fun l => pM.mem_iff.trans mem_lotsTo) (by omega)
          exact (List.pairwise_and_iff.mpr ⟨aM, nd⟩).imp fun {a b} z => keyLt_of z.1 z.2
  · exact h.elim
theorem watch_unique {n : Nat} {ts : List (Nat × Nat)} {l r : List Nat} (h : Watch n ts l) (g : Watch n ts r) : l = r := encKey.anti (leK_iff.mpr (h.2.2 r g.1 g.2.1)) (leK_iff.mpr (g.2.2 l h.1 h.2.1))
theorem vc__law_watch_right (C_Ties : Addr) : vS__law_watch_right C_Ties := by
  intro as Q h
  unfold S__law_watch_right at h
  split at h
  · obtain ⟨n, ts, rfl, ok, h⟩ := h
    have n10 := ok.n10
    have rw1 := rep_web ok
    simp [w__law_watch_right, S__law_near]
    refine ⟨n, ts, rfl, ok, ⟨rw1.sh, by have := rw1.ln; omega, by have := rw1.dp; omega, rw1.nd⟩, ?_⟩
    unfold tl1__law_watch_right
    simp
    unfold tl2__law_watch_right
    simp
    generalize hD : (DEnds.mk (tl3__law_watch_right C_Ties ⟨fun _ => Q (.fz .none), fun r _ => Q r, fun _ => False, fun _ => False⟩) (fun r _ => Q r) (fun _ => False) (fun _ => False)) = D
    have hR : ∀ (l : List Nat) (x4 x5 x6 : Sl), Watch n ts l → D.nx [.fz (webD n ts), .fz (.list (nearD n ts)), .fz (.str (webD n ts).shown), .fz (rowT l), x4, x5, x6] := fun l x4 x5 x6 hw => by
      rw [← hD]
      unfold tl3__law_watch_right
      simp [S_fewest_watch]
      refine ⟨n, ts, rfl, ok, fun l1 h1 => ?_⟩
      obtain rfl := watch_unique hw h1
      refine ⟨n, ts, rfl, ok, fun l2 h2 => ?_⟩
      obtain rfl := watch_unique hw h2
      have rl : RepN 404 1 (rowT l) := rep_nats (fun x hx => by have := hw.1.2 x hx; omega) (by
        have := nodup_len (zs := l) (n := n) (hw.1.1.imp fun z => by omega) hw.1.2
        omega)
      have r2 : RepN 816 2 (.list [rowT l, rowT l]) := (repN_list (xs := [rowT l, rowT l]) fun x hx => by
        simp at hx
        rw [hx]
        exact rl).mono (by simp) (by omega)
      refine ⟨r2.can (by omega) (by omega), r2.can (by omega) (by omega), ?_⟩
      simp
      exact ⟨rw1.can (by omega) (by omega), h⟩
    clear hD
    unfold lp1__law_watch_right
    simp [S__law_all, S__law_lots]
    refine ⟨n, ⟨ts, rfl⟩, n10, n, rfl, n10, fun ls asc mem len => ?_⟩
    refine forD_inv (fun i ρ => ∃ x4, (∀ l ∈ ls.take i, ¬ Watches n ts l) ∧ ρ = [.fz (webD n ts), .fz (.list (nearD n ts)), .fz (.str (webD n ts).shown), .fz .none, x4, .un, .un]) ⟨_, by simp, rfl⟩ ?_ ?_
    · rintro i d ρ hd ⟨x4, hb, rfl⟩ N hN
      rw [List.getElem?_map] at hd
      cases e : ls[i]? with
      | none => rw [e] at hd; cases hd
      | some l =>
        rw [e] at hd
        cases hd
        have hl := (mem l).mp (List.mem_of_getElem? e)
        simp [S__law_all]
        refine ⟨n, ⟨ts, rfl⟩, n10, by omega, ?_⟩
        refine lcD_map (fun v : Nat => .int (v : Int)) (fun v => if v ∉ l ∧ ∀ u ∈ nbl ts (List.range n) v, u ∉ l then some (.int (v : Int)) else none) (xs := List.range n) (fun v hv M q => ?_) ?_
        · have hv := List.mem_range.mp hv
          simp [rowT]
          refine ⟨l.map fun i : Nat => (i : Int), natsD_ints l, ?_⟩
          by_cases c1 : v ∈ l
          · rw [if_pos (mem_ints.mpr c1)]
            rw [if_neg fun z => z.1 c1] at q
            exact q
          · rw [if_neg fun z => c1 (mem_ints.mp z), near_at hv]
            have ln : (nbl ts (List.range n) v).length ≤ n := by
              have := List.length_filter_le (tied ts v) (List.range n)
              rw [List.length_range] at this
              exact this
            simp
            refine ⟨by omega, lcD_map (fun u : Nat => .int (u : Int)) (fun u => if u ∈ l then some (.int (u : Int)) else none) (xs := nbl ts (List.range n) v) (fun u hu M2 q2 => ?_) ?_⟩
            · simp
              refine ⟨l.map fun i : Nat => (i : Int), natsD_ints l, ?_⟩
              by_cases c2 : u ∈ l
              · rw [if_pos (mem_ints.mpr c2)]
                rw [if_pos c2] at q2
                exact q2
              · rw [if_neg fun z => c2 (mem_ints.mp z)]
                rw [if_neg c2] at q2
                exact q2
            · simp
              rw [filt_map]
              refine ⟨⟨shaped_ns _, shaped_ns []⟩, ?_⟩
              by_cases c2 : (nbl ts (List.range n) v).filter (fun a => decide (a ∈ l)) = []
              · rw [if_pos ((nats_nil _).mpr c2)]
                rw [if_pos ⟨c1, fun u hu z => List.filter_eq_nil_iff.mp c2 u hu (decide_eq_true z)⟩] at q
                exact q
              · rw [if_neg fun z => c2 ((nats_nil _).mp z)]
                rw [if_neg fun z => c2 (List.filter_eq_nil_iff.mpr fun u hu y => z.2 u hu (of_decide_eq_true y))] at q
                exact q
        · simp
          rw [filt_map]
          refine ⟨⟨shaped_ns _, shaped_ns []⟩, ?_⟩
          generalize hL : (List.range n).filter (fun a => decide (¬ a ∈ l ∧ ∀ u, u ∈ nbl ts (List.range n) a → ¬ u ∈ l)) = L
          have wi : L = [] ↔ Watches n ts l := by
            rw [← hL, List.filter_eq_nil_iff]
            constructor
            · intro z v hv
              have := z v (List.mem_range.mpr hv)
              rw [decide_eq_true_eq] at this
              by_cases c : v ∈ l
              · exact .inl c
              · refine .inr (Classical.byContradiction fun y => this ⟨c, fun u hu w => y ⟨u, w, (mem_nbl ok).mp hu⟩⟩)
            · intro z v hv y
              obtain ⟨y1, y2⟩ := of_decide_eq_true y
              rcases z v (List.mem_range.mp hv) with w | ⟨u, hu, w⟩
              · exact y1 w
              · exact y2 u ((mem_nbl ok).mpr w) hu
          have tk : ls.take (i + 1) = ls.take i ++ [l] := by rw [List.take_add_one, e]; rfl
          by_cases c : L = []
          · rw [if_pos ((nats_nil _).mpr c)]
            refine hR l _ _ _ ⟨hl, wi.mp c, fun l' h1 h2 => ?_⟩
            obtain ⟨j, hj⟩ := List.getElem?_of_mem ((mem l').mpr h1)
            rcases Nat.lt_trichotomy j i with z | z | z
            · refine absurd h2 (hb l' ?_)
              exact List.mem_of_getElem? (i := j) (by rw [List.getElem?_take_of_lt z]; exact hj)
            · subst z
              rw [e] at hj
              cases hj
              exact leK_iff.mp (by have := encKey.tot l l; simpa using this)
            · obtain ⟨h3, e3⟩ := List.getElem?_eq_some_iff.mp e
              obtain ⟨h4, e4⟩ := List.getElem?_eq_some_iff.mp hj
              have := (List.pairwise_iff_getElem.mp asc) i j h3 h4 z
              rw [e3, e4] at this
              exact keyLe_of this
          · rw [if_neg fun z => c ((nats_nil _).mp z)]
            refine hN _ ⟨_, fun r hr => ?_, rfl⟩
            rw [tk] at hr
            rcases List.mem_append.mp hr with hr | hr
            · exact hb r hr
            · rw [List.mem_singleton.mp hr]
              exact fun z => c (wi.mpr z)
    · rintro ρ ⟨x4, hb, rfl⟩
      rw [List.length_map, List.take_length] at hb
      refine absurd (fun v hv => .inl (List.mem_range.mpr hv)) (hb (List.range n) ((mem _).mpr ⟨List.pairwise_lt_range, fun x hx => List.mem_range.mp hx⟩))
  · exact h.elim
end K87

set_option Elab.async false
set_option linter.all false
set_option maxRecDepth 100000
set_option maxHeartbeats 1000000
namespace K87
open PySem PySem.Spec PyProof.Rows L2 DC G
/-- longer by one: (ahead, last) -/
def ext2 (n : Nat) (r : List Nat) : List (List Nat × Nat) := ((List.range n).filter fun t => decide (t ∉ r)).map fun t => (r, t)
def ordD (p : List Nat × Nat) : PyData := rowT (p.1 ++ [p.2])
def colD (ts : List (Nat × Nat)) (p : List Nat × Nat) : PyData := rowT (col ts p.1 p.2)
theorem ext2_len (n : Nat) (h7 : n ≤ 7) (l : List (List Nat)) : (l.flatMap (ext2 n)).length ≤ 7 * l.length := by
  induction l with
  | nil => simp
  | cons a r ih =>
    rw [List.flatMap_cons, List.length_append, List.length_cons]
    have : (ext2 n a).length ≤ 7 := by
      unfold ext2
      rw [List.length_map]
      have := List.length_filter_le (fun t => decide (t ∉ a)) (List.range n)
      rw [List.length_range] at this
      omega
    omega
theorem lp1_first {n k : Nat} {ts : List (Nat × Nat)} {D : DEnds} {rows : List (List Nat)} {x2 x3 x5 x7 x9 : Sl} (ok : Ok n ts) (h7 : n ≤ 7) (hR : ∀ r ∈ rows, r.length = k) (hk : k < n) (hl : rows.length ≤ 117649) (hne : rows ≠ [])
    (hD : ∀ a5, D.nx [.fz (webD n ts), .fz (.list (rows.map rowT)), x2, x3, .ow ((rows.flatMap (ext2 n)).map ordD), .fz a5, .un, x7, .un, x9, .un]) :
    lp1__law_first D [.fz (webD n ts), .fz (.list (rows.map rowT)), x2, x3, .ow [], x5, .un, x7, .un, x9, .un] := by
  unfold lp1__law_first
  simp
  refine forD_inv (fun i ρ => ∃ x5, (0 < i → ∃ a, x5 = .fz a) ∧ ρ = [.fz (webD n ts), .fz (.list (rows.map rowT)), x2, x3, .ow (((rows.take i).flatMap (ext2 n)).map ordD), x5, .un, x7, .un, x9, .un]) ⟨_, fun z => absurd z (Nat.lt_irrefl _), rfl⟩ ?_ ?_
  · rintro i d ρ hd ⟨x5, _, rfl⟩ M hM
    rw [List.getElem?_map] at hd
    cases e : rows[i]? with
    | none => rw [e] at hd; cases hd
    | some r =>
      rw [e] at hd
      cases hd
      have hr := hR r (List.mem_of_getElem? e)
      simp [webD]
      refine ⟨by omega, by omega, lcD_map (fun j : Nat => .int (j : Int)) (fun t => if t ∉ r then some (ordD (r, t)) else none) (xs := List.range n) (fun t ht N q => ?_) ?_⟩
      · simp [rowT]
        refine ⟨r.map fun i : Nat => (i : Int), natsD_ints r, ?_⟩
        by_cases c1 : t ∈ r
        · rw [if_pos (mem_ints.mpr c1)]
          rw [if_neg fun z => z c1] at q
          exact q
        · rw [if_neg fun z => c1 (mem_ints.mp z)]
          rw [if_pos c1] at q
          refine ⟨by omega, ?_⟩
          simpa [ordD, rowT, natsD] using q
      · have bnd := ext2_len n h7 (rows.take i)
        have bnd2 := ext2_len n h7 [r]
        have tl : (rows.take i).length ≤ rows.length := by rw [List.length_take]; omega
        simp at bnd2
        simp
        rw [filt_mapN]
        have e3 : rows.take (i + 1) = rows.take i ++ [r] := by
          rw [List.take_add_one, e]
          rfl
        have e4 : ((List.range n).filter fun a => decide (a ∉ r)).map (fun a => ordD (r, a)) = (ext2 n r).map ordD := by
          unfold ext2
          rw [List.map_map]
          rfl
        rw [e4]
        refine ⟨by simp at bnd tl ⊢; omega, hM _ ⟨.fz (rowT r), fun _ => ⟨_, rfl⟩, ?_⟩⟩
        rw [e3, List.flatMap_append, List.flatMap_singleton, List.map_append]
        rfl
  · rintro ρ ⟨x5, hx, rfl⟩
    rw [List.length_map] at hx ⊢
    rw [List.take_length]
    obtain ⟨a, rfl⟩ := hx (List.length_pos_iff.mpr hne)
    exact hD a
theorem vc__law_first : vS__law_first := by
  intro as Q h
  unfold S__law_first at h
  split at h
  · obtain ⟨n, ts, rfl, ok, h7, h⟩ := h
    have n10 := ok.n10
    simp [w__law_first]
    unfold tl1__law_first
    simp
    generalize hDD : (DEnds.mk (tl2__law_first ⟨fun _ => Q (.fz .none), fun r _ => Q r, fun _ => False, fun _ => False⟩) (fun r _ => Q r) (fun _ => False) (fun _ => False)) = D
    unfold lp2__law_first
    simp [webD]
    refine ⟨by omega, forD_inv (fun k ρ => ∃ (rows : List (List Nat)) (E : List (Nat × Nat)) (x3 x4 x5 x7 x9 : Sl), (∀ r, r ∈ rows ↔ Best n k ts r) ∧ rows ≠ [] ∧ rows.length ≤ 7 ^ k ∧ E.length ≤ k * 7 ∧ (∀ r ∈ rows, ∀ p, p ∈ E ↔ p.1 < p.2 ∧ p.2 < k ∧ tied ts (r.getD p.2 0) (r.getD p.1 0) = true) ∧ ρ = [.fz (webD n ts), .fz (.list (rows.map rowT)), .ow (E.map tieD), x3, x4, x5, .un, x7, .un, x9, .un]) ⟨[[]], [], _, _, _, _, _, ?_, by simp, by simp, by simp, ?_, rfl⟩ ?_ ?_⟩
    · intro r
      rw [List.mem_singleton, best_nil]
    · intro r _ p
      simp
    · rintro k d ρ hd ⟨rows, E, x3, x4, x5, x7, x9, hR, hne, hl, hEl, hE, rfl⟩ N hN
      have hk : k < n := by
        have := (List.getElem?_eq_some_iff.mp hd).1
        simpa using this
      have hd' : d = .int (k : Int) := by
        rw [List.getElem?_map, List.getElem?_range (by omega)] at hd
        simpa using (Option.some.inj hd).symm
      subst hd'
      simp
      have p7 : 7 ^ k ≤ 7 ^ 6 := Nat.pow_le_pow_right (by decide) (by omega)
      refine lp1_first ok h7 (fun r hr => ((hR r).mp hr).1.1) hk (by omega) hne fun a5 => ?_
      have lf := ext2_len n h7 rows
      have hF : ∀ p, p ∈ rows.flatMap (ext2 n) ↔ Best n k ts p.1 ∧ p.2 ∉ p.1 ∧ p.2 < n := fun p => by
        rw [List.mem_flatMap]
        constructor
        · rintro ⟨q, hq, h1⟩
          obtain ⟨t, ht, rfl⟩ := List.mem_map.mp h1
          rw [List.mem_filter, List.mem_range, decide_eq_true_eq] at ht
          exact ⟨(hR q).mp hq, ht.2, ht.1⟩
        · rintro ⟨b1, b2, b3⟩
          refine ⟨p.1, (hR _).mpr b1, List.mem_map.mpr ⟨p.2, List.mem_filter.mpr ⟨List.mem_range.mpr b3, decide_eq_true b2⟩, rfl⟩⟩
      generalize rows.flatMap (ext2 n) = F at hF lf
      have ex : ∃ r t, Best n k ts r ∧ t ∉ r ∧ t < n := by
        cases rows with
        | nil => exact absurd rfl hne
        | cons p r =>
          have b := (hR p).mp (by simp)
          obtain ⟨t, h1, h2⟩ := pre_left b.1 hk
          exact ⟨p, t, b, h1, h2⟩
      simp
      refine ⟨by omega, ?_⟩
      refine lcD_map ordD (fun p => some (colD ts p)) (fun p hp M q => ?_) ?_
      · obtain ⟨b1, b2, b3⟩ := (hF p).mp hp
        simp [ordD, rowT]
        have c1 : cutP (natsD p.1 ++ natsD [p.2]) none (some (-1)) = natsD p.1 := cutP_init (natsD p.1) (.int (p.2 : Int))
        rw [c1]
        have hl1 := b1.1.1
        have mt := memB_ties
        refine ⟨by simp; omega, lcD_map (fun j : Nat => .int (j : Int)) (fun o => some (.int ((if tied ts p.2 o = true then 1 else 0 : Nat) : Int))) (xs := p.1) (fun o ho M2 q2 => ?_) ?_⟩
        · have c2 : atI (natsD p.1 ++ natsD [p.2]) (-1) = some (.int (p.2 : Int)) := DC.atI_last _ _
          simp [c2, webD]
          have m1 : (if p.2 < o then (p.2 : Int) else (o : Int)) = ((min o p.2 : Nat) : Int) := by split <;> omega
          have m2 : (if o < p.2 then (p.2 : Int) else (o : Int)) = ((max o p.2 : Nat) : Int) := by split <;> omega
          rw [m1, m2]
          have m3 : PyData.tuple [.int ((min o p.2 : Nat) : Int), .int ((max o p.2 : Nat) : Int)] = tieD (min o p.2, max o p.2) := rfl
          rw [m3, memB_ties]
          refine ⟨⟨tie_pl _, plDs_ties ts, tie_depth _⟩, ?_⟩
          have m4 : decide ((min o p.2, max o p.2) ∈ ts) = tied ts p.2 o := by
            rw [Bool.eq_iff_iff, decide_eq_true_eq, tie_mem ok, G.tied_symm]
          rw [m4]
          cases z : tied ts p.2 o <;> simpa [z, rowT, webD] using q2
        · simp
          have m5 : (p.1.map fun o => PyData.int ((if tied ts p.2 o = true then 1 else 0 : Nat) : Int)) = natsD (col ts p.1 p.2) := by
            unfold col natsD
            rw [List.map_map]
            rfl
          simpa [m5, colD, rowT] using q
      · simp
        have eC : F.map (colD ts) = (F.map fun p => col ts p.1 p.2).map rowD := by
          rw [List.map_map]
          rfl
        have neF : F ≠ [] := fun e => by
          obtain ⟨r, t, z⟩ := ex
          have := (hF (r, t)).mpr z
          rw [e] at this
          cases this
        obtain ⟨m, hm, hmin⟩ := encRow.least (L := F.map fun p => col ts p.1 p.2) (fun z => neF (List.map_eq_nil_iff.mp z))
        obtain ⟨p0, F', eF⟩ : ∃ p0 F', F = p0 :: F' := by
          cases F with
          | nil => exact absurd rfl neF
          | cons a b => exact ⟨a, b, rfl⟩
        refine ⟨colD ts p0, F'.map (colD ts), by rw [eF]; rfl, ?_, ?_, ?_⟩
        · have := encRow.alikes (F.map fun p => col ts p.1 p.2)
          rw [← eC, eF] at this
          exact this
        · have := encRow.deps (F.map fun p => col ts p.1 p.2)
          rw [← eC, eF] at this
          exact this
        · have em : PySem.W.minD (colD ts p0) (F'.map (colD ts)) = rowD m := by
            have e1 : F'.map (colD ts) = (F'.map fun p => col ts p.1 p.2).map rowD := by
              rw [List.map_map]
              rfl
            rw [e1]
            rw [eF] at hm hmin
            exact encRow.min hm hmin
          rw [em]
          have eZ : zipD (F.map ordD) (F.map (colD ts)) = F.map fun p => .tuple [ordD p, colD ts p] := by
            unfold zipD
            rw [List.zipWith_map]
            exact List.zipWith_self
          rw [eZ]
          refine ⟨by simp; omega, lcD_map (fun p => .tuple [ordD p, colD ts p]) (fun p => if col ts p.1 p.2 = m then some (ordD p) else none) (fun p hp M q => ?_) ?_⟩
          · simp [colD]
            refine ⟨⟨shaped_pl (plD_row _) (depth_rowD _), shaped_pl (plD_row _) (depth_rowD _)⟩, ?_⟩
            show if PyData.eqv (rowD (col ts p.1 p.2)) (rowD m) = true then _ else _
            by_cases z : col ts p.1 p.2 = m
            · rw [if_pos ((eqv_rowD _ _).mpr z)]
              rw [if_pos z] at q
              exact q
            · rw [if_neg fun y => z ((eqv_rowD _ _).mp y)]
              rw [if_neg z] at q
              exact q
          · simp
            rw [filt_map]
            have ml : m.length = k := by
              obtain ⟨p, hp, rfl⟩ := List.mem_map.mp hm
              rw [col_len]
              exact ((hF p).mp hp).1.1.1
            refine ⟨by omega, by omega, lcD_map (fun j : Nat => .int (j : Int)) (fun i => if m.getD i 0 = 1 then some (tieD (i, k)) else none) (xs := List.range k) (fun i hi M2 q2 => ?_) ?_⟩
            · have hi := List.mem_range.mp hi
              have e1 : atI (natsD m) (i : Int) = some (.int (m.getD i 0 : Nat)) := nats_at (by omega)
              simp [rowD, e1]
              by_cases z : m[i]?.getD 0 = 1
              · rw [if_pos (by exact_mod_cast z)]
                rw [if_pos (by rw [List.getD_eq_getElem?_getD]; exact z)] at q2
                exact q2
              · rw [if_neg (by exact_mod_cast z)]
                rw [if_neg (by rw [List.getD_eq_getElem?_getD]; exact z)] at q2
                exact q2
            · simp only [List.nil_append]
              rw [filt_map]
              have colm : ∀ {r : List Nat} {t a : Nat}, a < r.length → (col ts r t).getD a 0 = if tied ts t (r.getD a 0) = true then 1 else 0 := fun {r t a} ha => by
                unfold col
                rw [List.getD_eq_getElem?_getD, List.getElem?_map, List.getElem?_eq_getElem ha, List.getD_eq_getElem?_getD, List.getElem?_eq_getElem ha]
                rfl
              have fl := List.length_filter_le (fun a => decide (m.getD a 0 = 1)) (List.range k)
              rw [List.length_range] at fl
              have fl2 := List.length_filter_le (fun p : List Nat × Nat => decide (col ts p.1 p.2 = m)) F
              have eO : ((F.filter fun a => decide (col ts a.1 a.2 = m)).map fun p => p.1 ++ [p.2]).map rowT = (F.filter fun a => decide (col ts a.1 a.2 = m)).map ordD := by
                rw [List.map_map]
                rfl
              have eE : (E ++ ((List.range k).filter fun a => decide (m.getD a 0 = 1)).map fun i => (i, k)).map tieD = E.map tieD ++ ((List.range k).filter fun a => decide (m.getD a 0 = 1)).map fun i => tieD (i, k) := by
                rw [List.map_append, List.map_map]
                rfl
              have hS := hN _ ⟨(F.filter fun a => decide (col ts a.1 a.2 = m)).map (fun p => p.1 ++ [p.2]), E ++ ((List.range k).filter fun a => decide (m.getD a 0 = 1)).map (fun i => (i, k)), .fz (.int (k : Int)), .fz (.list (F.map ordD)), .fz a5, .fz (.list (F.map (colD ts))), .fz (rowD m), ?_, ?_, ?_, ?_, ?_, rfl⟩
              · rw [eO, eE] at hS
                simpa using ⟨by have := fl; simp at this; omega, hS⟩
              · intro r
                rw [List.mem_map]
                constructor
                · rintro ⟨p, hp, rfl⟩
                  obtain ⟨hp, c⟩ := List.mem_filter.mp hp
                  have c := of_decide_eq_true c
                  refine (best_snoc ex).mpr ⟨(hF p).mp hp, fun r' t' b' n' l' => ?_⟩
                  rw [c]
                  exact of_decide_eq_true (hmin _ (List.mem_map.mpr ⟨(r', t'), (hF (r', t')).mpr ⟨b', n', l'⟩, rfl⟩))
                · intro hb
                  obtain ⟨r', t, rfl⟩ := pre_split hb.1
                  obtain ⟨h1, h2⟩ := (best_snoc ex).mp hb
                  refine ⟨(r', t), List.mem_filter.mpr ⟨(hF (r', t)).mpr h1, decide_eq_true ?_⟩, rfl⟩
                  obtain ⟨q, hq, rfl⟩ := List.mem_map.mp hm
                  have b := (hF q).mp hq
                  exact List.le_antisymm (h2 _ _ b.1 b.2.1 b.2.2) (of_decide_eq_true (hmin _ (List.mem_map.mpr ⟨(r', t), (hF (r', t)).mpr h1, rfl⟩)))
              · obtain ⟨q, hq, e⟩ := List.mem_map.mp hm
                intro z
                have := List.mem_filter (p := fun a : List Nat × Nat => decide (col ts a.1 a.2 = m)).mpr ⟨hq, decide_eq_true e⟩
                rw [List.map_eq_nil_iff.mp z] at this
                cases this
              · rw [List.length_map, Nat.pow_succ]
                omega
              · rw [List.length_append, List.length_map]
                omega
              · intro r hr p
                obtain ⟨q, hq, rfl⟩ := List.mem_map.mp hr
                obtain ⟨hq, c⟩ := List.mem_filter.mp hq
                have c := of_decide_eq_true c
                have b := (hF q).mp hq
                have ql := b.1.1.1
                rw [List.mem_append, hE q.1 ((hR _).mpr b.1), List.mem_map]
                constructor
                · rintro (⟨h1, h2, h3⟩ | ⟨i, hi, rfl⟩)
                  · rw [getD_old (by omega), getD_old (by omega)]
                    exact ⟨h1, by omega, h3⟩
                  · obtain ⟨hi, d⟩ := List.mem_filter.mp hi
                    have hi := List.mem_range.mp hi
                    have d := of_decide_eq_true d
                    rw [← c, colm (by omega)] at d
                    simp only
                    have e5 : (q.1 ++ [q.2]).getD k 0 = q.2 := by rw [← ql]; exact getD_new
                    rw [e5, getD_old (by omega)]
                    refine ⟨hi, by omega, ?_⟩
                    cases z : tied ts q.2 (q.1.getD i 0) with
                    | true => rfl
                    | false => rw [z] at d; simp at d
                · rintro ⟨h1, h2, h3⟩
                  by_cases e6 : p.2 = k
                  · refine .inr ⟨p.1, List.mem_filter.mpr ⟨List.mem_range.mpr (by omega), decide_eq_true ?_⟩, Prod.ext rfl e6.symm⟩
                    have e5 : (q.1 ++ [q.2]).getD k 0 = q.2 := by rw [← ql]; exact getD_new
                    rw [e6, e5, getD_old (by omega)] at h3
                    rw [← c, colm (by omega), if_pos h3]
                  · rw [getD_old (by omega), getD_old (by omega)] at h3
                    exact .inl ⟨h1, by omega, h3⟩
    · rintro ρ ⟨rows, E, x3, x4, x5, x7, x9, hR, hne, hl, hEl, hE, rfl⟩
      simp at hR hEl hE
      rw [← hDD]
      unfold tl2__law_first
      have bnd : E.length ≤ 63 := by omega
      cases rows with
      | nil => exact absurd rfl hne
      | cons ord rest =>
        have bo := (hR ord).mp (by simp)
        have hE := hE ord (by simp)
        have po := pre_perm.mp bo.1
        simp [webD, S__law_made]
        refine ⟨n, rfl, E, rfl, bnd, fun a b z => ?_, fun us asc mem => ?_⟩
        · have := (hE a b).mp z
          omega
        · have mem2 : ∀ p : Nat × Nat, p ∈ us ↔ p ∈ E := fun ⟨a, b⟩ => by
            rw [mem]
            constructor
            · rintro ⟨c, d, h1, h2, rfl, rfl⟩
              have := (hE c d).mp h1
              rw [Nat.min_eq_left (by omega), Nat.max_eq_right (by omega)]
              exact h1
            · intro h1
              have := (hE a b).mp h1
              exact ⟨a, b, h1, by omega, by omega, by omega⟩
          have okU : Ok n us := Ok.of n10 (fun p hp => by
            have := (hE p.1 p.2).mp ((mem2 p).mp hp)
            omega) asc
          refine h us ⟨ord, bo, okU, ?_⟩
          have key : ∀ i j, i < j → j < n → tied us i j = tied ts (ord.getD i 0) (ord.getD j 0) := fun i j hij hj => by
            rw [Bool.eq_iff_iff, tied_iff, mem2, mem2, hE, hE, G.tied_symm ts (ord.getD i 0)]
            simp only [List.getD_eq_getElem?_getD]
            constructor
            · rintro (z | z)
              · exact z.2.2
              · omega
            · exact fun z => .inl ⟨hij, hj, z⟩
          intro i j hi hj
          rcases Nat.lt_trichotomy i j with c | c | c
          · exact key i j c hj
          · subst c
            rw [tied_self okU, tied_self ok]
          · rw [G.tied_symm us, G.tied_symm ts]
            exact key j i c hi
  · exact h.elim
end K87



set_option Elab.async false
set_option linter.all false
set_option maxRecDepth 100000
set_option maxHeartbeats 1000000
/-! a if t else b, as a test -/
namespace DC
open PySem PySem.Spec PyProof.Rows L2
@[simp] def wIfT (wt wa wb : WT) : WT := fun ρ Q => wt ρ fun d ρ1 => if d = true then wa ρ1 Q else wb ρ1 Q
def tIfT (t ta tb : TT) : TT := fun σ H Q => t σ H fun c H1 => if c = true then ta σ H1 Q else tb σ H1 Q
theorem pt_if {X : Cx} {a b c : Expr} {pos : Pos} {tt ta tb : TT} (hc : PT X c tt) (ha : PT X a ta) (hb : PT X b tb) : PT X (.IfExp c a b pos) (tIfT tt ta tb) := by
  refine ⟨fun pins s σ H Q I h => ?_⟩
  show wpAny (model X.prog X.w) X.A (do
    if ← isTrue c X.env (eval c X.env) then isTrue a X.env (eval a X.env) else isTrue b X.env (eval b X.env)) (TP X pins σ Q) X.xe s
  refine wpAny_bind (wpAny_mono (hc.run pins s σ H _ I h) (fun d s1 h1 => ?_) fun _ _ x => x)
  obtain ⟨H1, I1, q1⟩ := h1
  cases d with
  | true => exact ha.run pins s1 σ H1 Q I1 q1
  | false => exact hb.run pins s1 σ H1 Q I1 q1
theorem dt_if {X : Cx} {a b c : Expr} {pos : Pos} {tt ta tb : TT} {wt wta wtb : WT} (hc : DT X c tt wt) (ha : DT X a ta wta) (hb : DT X b tb wtb) : DT X (.IfExp c a b pos) (tIfT tt ta tb) (wIfT wt wta wtb) := by
  refine ⟨pt_if hc.pt ha.pt hb.pt, fun ρ Q h O L σ H I QV q => ?_⟩
  unfold wIfT at h
  refine hc.ev ρ _ h O L σ H I _ fun L1 d H1 ρ1 g1 I1 h1 => ?_
  cases d with
  | true =>
    rw [if_pos rfl] at h1 ⊢
    exact ha.ev ρ1 _ h1 O L1 σ H1 I1 _ fun L2 v2 H2 ρ2 g2 I2 h2 => q L2 v2 H2 ρ2 (g1.trans g2) I2 h2
  | false =>
    rw [if_neg Bool.false_ne_true] at h1 ⊢
    exact hb.ev ρ1 _ h1 O L1 σ H1 I1 _ fun L2 v2 H2 ρ2 g2 I2 h2 => q L2 v2 H2 ρ2 (g1.trans g2) I2 h2
theorem dt_ifV {X : Cx} {a b c : Expr} {pos : Pos} {tt ta tb : TT} {wt : WT} {wa wb : WE} (hc : DT X c tt wt) (ha : DT X a ta (wTest wa)) (hb : DT X b tb (wTest wb)) : DT X (.IfExp c a b pos) (tIfT tt ta tb) (wTest (wIf wt wa wb)) := by
  have h := dt_if (pos := pos) hc ha hb
  refine ⟨h.pt, fun ρ Q hw => h.ev ρ Q ?_⟩
  unfold wIfT
  have e : wTest (wIf wt wa wb) = fun ρ Q => wt ρ fun d ρ1 => if d = true then wTest wa ρ1 Q else wTest wb ρ1 Q := by
    funext ρ Q
    simp only [wTest, wIf]
  rw [e] at hw
  exact hw
end DC

set_option Elab.async false
set_option linter.all false
set_option maxRecDepth 100000
set_option maxHeartbeats 1000000

namespace K87
open PySem PySem.Spec PyProof.Rows L2 DC G
/-! Printed by gen.py: each def keeps its promise. -/
def top (i : Nat) : Stmt := PySem.Challenge.pw_drawnwebs_k87_first_forms_and_fewest_wat.main.body.getD i (.Pass ⟨0, 0, 0, 0⟩)
def inC (c : Stmt) (j : Nat) : Stmt := (C8.clsBody c).getD j (.Pass ⟨0, 0, 0, 0⟩)
abbrev s__law_feed : Stmt := top 39
abbrev s__law_draw : Stmt := top 40
abbrev s__law_one : Stmt := top 41
abbrev s__law_mixed : Stmt := top 42
abbrev s__law_pairs : Stmt := top 43
abbrev s__law_shared : Stmt := top 44
abbrev s__law_tree_ties : Stmt := top 45
abbrev s__law_stacked_ties : Stmt := top 46
abbrev s__law_barred_ties : Stmt := top 47
abbrev s__law_cube : Stmt := top 48
abbrev s__law_made : Stmt := top 49
abbrev s__law_web : Stmt := top 50
abbrev s_renamed_web : Stmt := top 22
abbrev s_Ties_are_tied : Stmt := inC (top 18) 1
abbrev s_first_form_of : Stmt := top 27
abbrev s_is_integer : Stmt := top 7
abbrev s_is_within : Stmt := top 8
abbrev s_is_row : Stmt := top 9
abbrev s_is_rising : Stmt := top 10
abbrev s_is_tie : Stmt := top 14
abbrev s_is_web_form : Stmt := top 15
abbrev s_need_web : Stmt := top 16
abbrev s_need_small : Stmt := top 31
abbrev s_first_form : Stmt := top 32
abbrev s_is_order_of : Stmt := top 11
abbrev s_need_order : Stmt := top 17
abbrev s_renamed : Stmt := top 36
abbrev s_things_of : Stmt := top 19
abbrev s_lot_of : Stmt := top 20
abbrev s_things_tied : Stmt := top 24
abbrev s_Likeness_fits : Stmt := inC (top 23) 2
abbrev s_Likeness_first : Stmt := inC (top 23) 1
abbrev s_first_likeness : Stmt := top 25
abbrev s_alike_webs : Stmt := top 37
abbrev s__law_first : Stmt := top 54
abbrev s__law_right : Stmt := top 55
abbrev s_watch_lots : Stmt := top 28
abbrev s_fewest_watch : Stmt := top 33
abbrev s__law_near : Stmt := top 51
abbrev s__law_all : Stmt := top 52
abbrev s__law_lots : Stmt := top 53
abbrev s__law_watch_right : Stmt := top 56
abbrev s_law : Stmt := top 57
abbrev s_Ties___init__ : Stmt := inC (top 18) 0
abbrev s_Likeness___init__ : Stmt := inC (top 23) 0
structure Blt (mg : Str → Option Value) : Prop where
  all : mg "all" = none
  bool : mg "bool" = none
  enumerate : mg "enumerate" = none
  int : mg "int" = none
  isinstance : mg "isinstance" = none
  len : mg "len" = none
  list : mg "list" = none
  max : mg "max" = none
  min : mg "min" = none
  range : mg "range" = none
  repr : mg "repr" = none
  set : mg "set" = none
  sorted : mg "sorted" = none
  sum : mg "sum" = none
  tuple : mg "tuple" = none
  zip : mg "zip" = none
structure Mod (K : PySem.W.Frag) (mg : Str → Option Value) where
  blt : Blt mg
  fd__law_feed : FuncData
  F__law_feed : FunD K "_law_feed" "_law_feed" (defArgs s__law_feed) (defBody s__law_feed) (defScope s__law_feed) [] [] (He.ga K "_law_feed") fd__law_feed
  g__law_feed : mg "_law_feed" = some (.ref (He.ga K "_law_feed"))
  fd__law_draw : FuncData
  F__law_draw : FunD K "_law_draw" "_law_draw" (defArgs s__law_draw) (defBody s__law_draw) (defScope s__law_draw) [] [] (He.ga K "_law_draw") fd__law_draw
  g__law_draw : mg "_law_draw" = some (.ref (He.ga K "_law_draw"))
  fd__law_one : FuncData
  F__law_one : FunD K "_law_one" "_law_one" (defArgs s__law_one) (defBody s__law_one) (defScope s__law_one) [] [] (He.ga K "_law_one") fd__law_one
  g__law_one : mg "_law_one" = some (.ref (He.ga K "_law_one"))
  fd__law_mixed : FuncData
  F__law_mixed : FunD K "_law_mixed" "_law_mixed" (defArgs s__law_mixed) (defBody s__law_mixed) (defScope s__law_mixed) [] [] (He.ga K "_law_mixed") fd__law_mixed
  g__law_mixed : mg "_law_mixed" = some (.ref (He.ga K "_law_mixed"))
  fd__law_pairs : FuncData
  F__law_pairs : FunD K "_law_pairs" "_law_pairs" (defArgs s__law_pairs) (defBody s__law_pairs) (defScope s__law_pairs) [] [] (He.ga K "_law_pairs") fd__law_pairs
  g__law_pairs : mg "_law_pairs" = some (.ref (He.ga K "_law_pairs"))
  fd__law_shared : FuncData
  F__law_shared : FunD K "_law_shared" "_law_shared" (defArgs s__law_shared) (defBody s__law_shared) (defScope s__law_shared) [] [] (He.ga K "_law_shared") fd__law_shared
  g__law_shared : mg "_law_shared" = some (.ref (He.ga K "_law_shared"))
  fd__law_tree_ties : FuncData
  F__law_tree_ties : FunD K "_law_tree_ties" "_law_tree_ties" (defArgs s__law_tree_ties) (defBody s__law_tree_ties) (defScope s__law_tree_ties) [] [] (He.ga K "_law_tree_ties") fd__law_tree_ties
  g__law_tree_ties : mg "_law_tree_ties" = some (.ref (He.ga K "_law_tree_ties"))
  fd__law_stacked_ties : FuncData
  F__law_stacked_ties : FunD K "_law_stacked_ties" "_law_stacked_ties" (defArgs s__law_stacked_ties) (defBody s__law_stacked_ties) (defScope s__law_stacked_ties) [] [] (He.ga K "_law_stacked_ties") fd__law_stacked_ties
  g__law_stacked_ties : mg "_law_stacked_ties" = some (.ref (He.ga K "_law_stacked_ties"))
  fd__law_barred_ties : FuncData
  F__law_barred_ties : FunD K "_law_barred_ties" "_law_barred_ties" (defArgs s__law_barred_ties) (defBody s__law_barred_ties) (defScope s__law_barred_ties) [] [] (He.ga K "_law_barred_ties") fd__law_barred_ties
  g__law_barred_ties : mg "_law_barred_ties" = some (.ref (He.ga K "_law_barred_ties"))
  fd__law_cube : FuncData
  F__law_cube : FunD K "_law_cube" "_law_cube" (defArgs s__law_cube) (defBody s__law_cube) (defScope s__law_cube) [] [] (He.ga K "_law_cube") fd__law_cube
  g__law_cube : mg "_law_cube" = some (.ref (He.ga K "_law_cube"))
  fd__law_made : FuncData
  F__law_made : FunD K "_law_made" "_law_made" (defArgs s__law_made) (defBody s__law_made) (defScope s__law_made) [] [] (He.ga K "_law_made") fd__law_made
  g__law_made : mg "_law_made" = some (.ref (He.ga K "_law_made"))
  fd__law_web : FuncData
  F__law_web : FunD K "_law_web" "_law_web" (defArgs s__law_web) (defBody s__law_web) (defScope s__law_web) [] [] (He.ga K "_law_web") fd__law_web
  g__law_web : mg "_law_web" = some (.ref (He.ga K "_law_web"))
  fd_renamed_web : FuncData
  F_renamed_web : FunD K "renamed_web" "renamed_web" (defArgs s_renamed_web) (defBody s_renamed_web) (defScope s_renamed_web) [] [] (He.ga K "renamed_web") fd_renamed_web
  g_renamed_web : mg "renamed_web" = some (.ref (He.ga K "renamed_web"))
  fd_Ties_are_tied : FuncData
  F_Ties_are_tied : FunD K "are_tied" "Ties.are_tied" (defArgs s_Ties_are_tied) (defBody s_Ties_are_tied) (defScope s_Ties_are_tied) [] [] (He.ma K (He.ga K "Ties") "are_tied") fd_Ties_are_tied
  m_Ties_are_tied : Meth K (He.ga K "Ties") "are_tied" (He.ma K (He.ga K "Ties") "are_tied")
  fd_first_form_of : FuncData
  F_first_form_of : FunD K "first_form_of" "first_form_of" (defArgs s_first_form_of) (defBody s_first_form_of) (defScope s_first_form_of) [] [] (He.ga K "first_form_of") fd_first_form_of
  g_first_form_of : mg "first_form_of" = some (.ref (He.ga K "first_form_of"))
  fd_is_integer : FuncData
  F_is_integer : FunD K "is_integer" "is_integer" (defArgs s_is_integer) (defBody s_is_integer) (defScope s_is_integer) [] [] (He.ga K "is_integer") fd_is_integer
  g_is_integer : mg "is_integer" = some (.ref (He.ga K "is_integer"))
  fd_is_within : FuncData
  F_is_within : FunD K "is_within" "is_within" (defArgs s_is_within) (defBody s_is_within) (defScope s_is_within) [] [] (He.ga K "is_within") fd_is_within
  g_is_within : mg "is_within" = some (.ref (He.ga K "is_within"))
  fd_is_row : FuncData
  F_is_row : FunD K "is_row" "is_row" (defArgs s_is_row) (defBody s_is_row) (defScope s_is_row) [] [] (He.ga K "is_row") fd_is_row
  g_is_row : mg "is_row" = some (.ref (He.ga K "is_row"))
  fd_is_rising : FuncData
  F_is_rising : FunD K "is_rising" "is_rising" (defArgs s_is_rising) (defBody s_is_rising) (defScope s_is_rising) [] [] (He.ga K "is_rising") fd_is_rising
  g_is_rising : mg "is_rising" = some (.ref (He.ga K "is_rising"))
  fd_is_tie : FuncData
  F_is_tie : FunD K "is_tie" "is_tie" (defArgs s_is_tie) (defBody s_is_tie) (defScope s_is_tie) [] [] (He.ga K "is_tie") fd_is_tie
  g_is_tie : mg "is_tie" = some (.ref (He.ga K "is_tie"))
  fd_is_web_form : FuncData
  F_is_web_form : FunD K "is_web_form" "is_web_form" (defArgs s_is_web_form) (defBody s_is_web_form) (defScope s_is_web_form) [] [] (He.ga K "is_web_form") fd_is_web_form
  g_is_web_form : mg "is_web_form" = some (.ref (He.ga K "is_web_form"))
  fd_need_web : FuncData
  F_need_web : FunD K "need_web" "need_web" (defArgs s_need_web) (defBody s_need_web) (defScope s_need_web) [] [] (He.ga K "need_web") fd_need_web
  g_need_web : mg "need_web" = some (.ref (He.ga K "need_web"))
  fd_need_small : FuncData
  F_need_small : FunD K "need_small" "need_small" (defArgs s_need_small) (defBody s_need_small) (defScope s_need_small) [] [] (He.ga K "need_small") fd_need_small
  g_need_small : mg "need_small" = some (.ref (He.ga K "need_small"))
  fd_first_form : FuncData
  F_first_form : FunD K "first_form" "first_form" (defArgs s_first_form) (defBody s_first_form) (defScope s_first_form) [] [] (He.ga K "first_form") fd_first_form
  g_first_form : mg "first_form" = some (.ref (He.ga K "first_form"))
  fd_is_order_of : FuncData
  F_is_order_of : FunD K "is_order_of" "is_order_of" (defArgs s_is_order_of) (defBody s_is_order_of) (defScope s_is_order_of) [] [] (He.ga K "is_order_of") fd_is_order_of
  g_is_order_of : mg "is_order_of" = some (.ref (He.ga K "is_order_of"))
  fd_need_order : FuncData
  F_need_order : FunD K "need_order" "need_order" (defArgs s_need_order) (defBody s_need_order) (defScope s_need_order) [] [] (He.ga K "need_order") fd_need_order
  g_need_order : mg "need_order" = some (.ref (He.ga K "need_order"))
  fd_renamed : FuncData
  F_renamed : FunD K "renamed" "renamed" (defArgs s_renamed) (defBody s_renamed) (defScope s_renamed) [] [] (He.ga K "renamed") fd_renamed
  g_renamed : mg "renamed" = some (.ref (He.ga K "renamed"))
  fd_things_of : FuncData
  F_things_of : FunD K "things_of" "things_of" (defArgs s_things_of) (defBody s_things_of) (defScope s_things_of) [] [] (He.ga K "things_of") fd_things_of
  g_things_of : mg "things_of" = some (.ref (He.ga K "things_of"))
  fd_lot_of : FuncData
  F_lot_of : FunD K "lot_of" "lot_of" (defArgs s_lot_of) (defBody s_lot_of) (defScope s_lot_of) [] [] (He.ga K "lot_of") fd_lot_of
  g_lot_of : mg "lot_of" = some (.ref (He.ga K "lot_of"))
  fd_things_tied : FuncData
  F_things_tied : FunD K "things_tied" "things_tied" (defArgs s_things_tied) (defBody s_things_tied) (defScope s_things_tied) [] [] (He.ga K "things_tied") fd_things_tied
  g_things_tied : mg "things_tied" = some (.ref (He.ga K "things_tied"))
  fd_Likeness_fits : FuncData
  F_Likeness_fits : FunD K "fits" "Likeness.fits" (defArgs s_Likeness_fits) (defBody s_Likeness_fits) (defScope s_Likeness_fits) [] [] (He.ma K (He.ga K "Likeness") "fits") fd_Likeness_fits
  m_Likeness_fits : Meth K (He.ga K "Likeness") "fits" (He.ma K (He.ga K "Likeness") "fits")
  fd_Likeness_first : FuncData
  F_Likeness_first : FunD K "first" "Likeness.first" (defArgs s_Likeness_first) (defBody s_Likeness_first) (defScope s_Likeness_first) [] [] (He.ma K (He.ga K "Likeness") "first") fd_Likeness_first
  m_Likeness_first : Meth K (He.ga K "Likeness") "first" (He.ma K (He.ga K "Likeness") "first")
  fd_first_likeness : FuncData
  F_first_likeness : FunD K "first_likeness" "first_likeness" (defArgs s_first_likeness) (defBody s_first_likeness) (defScope s_first_likeness) [] [] (He.ga K "first_likeness") fd_first_likeness
  g_first_likeness : mg "first_likeness" = some (.ref (He.ga K "first_likeness"))
  fd_alike_webs : FuncData
  F_alike_webs : FunD K "alike_webs" "alike_webs" (defArgs s_alike_webs) (defBody s_alike_webs) (defScope s_alike_webs) [] [] (He.ga K "alike_webs") fd_alike_webs
  g_alike_webs : mg "alike_webs" = some (.ref (He.ga K "alike_webs"))
  fd__law_first : FuncData
  F__law_first : FunD K "_law_first" "_law_first" (defArgs s__law_first) (defBody s__law_first) (defScope s__law_first) [] [] (He.ga K "_law_first") fd__law_first
  g__law_first : mg "_law_first" = some (.ref (He.ga K "_law_first"))
  fd__law_right : FuncData
  F__law_right : FunD K "_law_right" "_law_right" (defArgs s__law_right) (defBody s__law_right) (defScope s__law_right) [] [] (He.ga K "_law_right") fd__law_right
  g__law_right : mg "_law_right" = some (.ref (He.ga K "_law_right"))
  fd_watch_lots : FuncData
  F_watch_lots : FunD K "watch_lots" "watch_lots" (defArgs s_watch_lots) (defBody s_watch_lots) (defScope s_watch_lots) [] [] (He.ga K "watch_lots") fd_watch_lots
  g_watch_lots : mg "watch_lots" = some (.ref (He.ga K "watch_lots"))
  fd_fewest_watch : FuncData
  F_fewest_watch : FunD K "fewest_watch" "fewest_watch" (defArgs s_fewest_watch) (defBody s_fewest_watch) (defScope s_fewest_watch) [] [] (He.ga K "fewest_watch") fd_fewest_watch
  g_fewest_watch : mg "fewest_watch" = some (.ref (He.ga K "fewest_watch"))
  fd__law_near : FuncData
  F__law_near : FunD K "_law_near" "_law_near" (defArgs s__law_near) (defBody s__law_near) (defScope s__law_near) [] [] (He.ga K "_law_near") fd__law_near
  g__law_near : mg "_law_near" = some (.ref (He.ga K "_law_near"))
  fd__law_all : FuncData
  F__law_all : FunD K "_law_all" "_law_all" (defArgs s__law_all) (defBody s__law_all) (defScope s__law_all) [] [] (He.ga K "_law_all") fd__law_all
  g__law_all : mg "_law_all" = some (.ref (He.ga K "_law_all"))
  fd__law_lots : FuncData
  F__law_lots : FunD K "_law_lots" "_law_lots" (defArgs s__law_lots) (defBody s__law_lots) (defScope s__law_lots) [] [] (He.ga K "_law_lots") fd__law_lots
  g__law_lots : mg "_law_lots" = some (.ref (He.ga K "_law_lots"))
  fd__law_watch_right : FuncData
  F__law_watch_right : FunD K "_law_watch_right" "_law_watch_right" (defArgs s__law_watch_right) (defBody s__law_watch_right) (defScope s__law_watch_right) [] [] (He.ga K "_law_watch_right") fd__law_watch_right
  g__law_watch_right : mg "_law_watch_right" = some (.ref (He.ga K "_law_watch_right"))
  fd_law : FuncData
  F_law : FunD K "law" "law" (defArgs s_law) (defBody s_law) (defScope s_law) [] [] (He.ga K "law") fd_law
  g_law : mg "law" = some (.ref (He.ga K "law"))
  fd_Ties___init__ : FuncData
  F_Ties___init__ : FunD K "__init__" "Ties.__init__" (defArgs s_Ties___init__) (defBody s_Ties___init__) (defScope s_Ties___init__) [] [] (He.ma K (He.ga K "Ties") "__init__") fd_Ties___init__
  fd_Likeness___init__ : FuncData
  F_Likeness___init__ : FunD K "__init__" "Likeness.__init__" (defArgs s_Likeness___init__) (defBody s_Likeness___init__) (defScope s_Likeness___init__) [] [] (He.ma K (He.ga K "Likeness") "__init__") fd_Likeness___init__
  g_Ties : mg "Ties" = some (.ref (He.ga K "Ties"))
  c_Ties : Cls K (He.ga K "Ties")
  mk_Ties : Mk K (He.ga K "Ties") (He.ma K (He.ga K "Ties") "__init__")
  n_Ties_many : NoAttr K (He.ga K "Ties") "many"
  n_Ties_to : NoAttr K (He.ga K "Ties") "to"
  n_Ties_whole : NoAttr K (He.ga K "Ties") "whole"
  g_Likeness : mg "Likeness" = some (.ref (He.ga K "Likeness"))
  c_Likeness : Cls K (He.ga K "Likeness")
  mk_Likeness : Mk K (He.ga K "Likeness") (He.ma K (He.ga K "Likeness") "__init__")
  n_Likeness_ties : NoAttr K (He.ga K "Likeness") "ties"
  n_Likeness_goal : NoAttr K (He.ga K "Likeness") "goal"
  g_MOST_THINGS : ∃ t, mg "MOST_THINGS" = some (.int 10 t)
  g_MOST_FORMED : ∃ t, mg "MOST_FORMED" = some (.int 7 t)
  g_MOST_ALIKE : ∃ t, mg "MOST_ALIKE" = some (.int 8 t)
section
variable {P : Program} {w : World} {K : PySem.W.Frag} {mg : Str → Option Value} {base : Heap}
theorem sc__law_feed : FnScope N__law_feed ["script", "k"] (defScope s__law_feed) := ⟨rfl, rfl, rfl, by decide +kernel, rfl, by decide +kernel, by decide +kernel⟩
theorem nd__law_feed : N__law_feed.Nodup := sc__law_feed.nd
theorem d__law_feed (M : Mod K mg) {f : Addr} (cdv : Value) (A : Around) (outer : List Env) (s : Shared) (H : Hp) (hgd : A.guards = some []) (hr : Room 1 (A.deeper (envOfC "_law_feed" (defScope s__law_feed) s.heap.objs.size f cdv))) :
    ∃ t, DSs (cxOf CX0 P w K mg base N__law_feed "_law_feed" (defScope s__law_feed) f cdv A outer s H E0) (defBody s__law_feed) t (w__law_feed) := by
  have hp := owns (P := P) (w := w) (K := K) (mg := mg) (base := base) (N := N__law_feed) (qual := "_law_feed") (scope := defScope s__law_feed) (f := f) (cd := cdv) (A := A) (outer := outer) (s := s) (H := H)
  exact ⟨_, dss_cons (ds_set (i := 2) nd__law_feed rfl (by first | exact Or.inl rfl | exact Or.inr rfl) (de_op op_addA lift_add (de_op op_mulY lift_IC (de_int) (de_var 1)) (de_callB (cr_sum rfl) lift_sum rfl M.blt.sum boot_sum (da_cons (de_slice sl_any lift_sl (de_var 0) (do_none) (do_some (de_int))) (da_nil)))))
    (dss_cons (ds_if (dt_cmp (op_ltA hr.units0) lift_lt (de_var 1) (de_callB call_len lift_len rfl M.blt.len boot_len (da_cons (de_var 0) (da_nil))) (nomark _)) (dss_one (ds_set (i := 2) nd__law_feed rfl (by first | exact Or.inl rfl | exact Or.inr rfl) (de_ix (de_var 0) (de_var 1) (fun _ _ => rfl)))) (dss_nil))
    (dss_one (ds_ret (de_lst (da_cons (de_callB (call_max2 rfl) lift_max2 rfl M.blt.max boot_max (da_cons (de_int) (da_cons (de_op op_sub lift_I (de_var 2) (de_op op_pow lift_IC (de_int) (de_int))) (da_nil)))) (da_cons (de_op op_mod lift_IC (de_callTy call_int1 lift_int rfl M.blt.int boot_int (da_cons (de_op op_addA lift_add (de_op op_mulY lift_IC (de_var 2) (de_int)) (de_op op_mulY lift_IC (de_int) (de_var 1))) (da_nil))) (de_op op_addA lift_add (de_op op_pow lift_IC (de_int) (de_int)) (de_int))) (da_cons (de_int) (da_nil))))))))⟩
theorem ok__law_feed (M : Mod K mg) : FnG P w K mg base 2 (He.ga K "_law_feed") M.fd__law_feed ["script", "k"] (spP K (S__law_feed)) :=
  okP M.F__law_feed sc__law_feed (hl__law_feed) fun cdv A outer s H hgd hr => let ⟨t, D⟩ := d__law_feed M cdv A outer s H hgd hr
  ⟨t, _, D, vc__law_feed⟩
theorem bd__law_feed (M : Mod K mg) : Binds K M.fd__law_feed ["script", "k"] [] := M.F__law_feed.bindsN fun _ _ _ _ _ _ us hl => match us, hl with | [_, _], _ => rfl
theorem cal__law_feed (M : Mod K mg) : Cal P w K mg base "_law_feed" 2 (He.ga K "_law_feed") M.fd__law_feed ["script", "k"] (spP K (S__law_feed)) := ⟨ok__law_feed M, M.g__law_feed, M.F__law_feed.kp, bd__law_feed M⟩
theorem sc__law_draw : FnScope N__law_draw ["feed", "many"] (defScope s__law_draw) := ⟨rfl, rfl, rfl, by decide +kernel, rfl, by decide +kernel, by decide +kernel⟩
theorem nd__law_draw : N__law_draw.Nodup := sc__law_draw.nd
theorem d__law_draw (M : Mod K mg) {f : Addr} (cdv : Value) (A : Around) (outer : List Env) (s : Shared) (H : Hp) (hgd : A.guards = some []) (hr : Room 1 (A.deeper (envOfC "_law_draw" (defScope s__law_draw) s.heap.objs.size f cdv))) :
    ∃ t, DSs (cxOf CX0 P w K mg base N__law_draw "_law_draw" (defScope s__law_draw) f cdv A outer s H E0) (defBody s__law_draw) t (w__law_draw) := by
  have hp := owns (P := P) (w := w) (K := K) (mg := mg) (base := base) (N := N__law_draw) (qual := "_law_draw") (scope := defScope s__law_draw) (f := f) (cd := cdv) (A := A) (outer := outer) (s := s) (H := H)
  exact ⟨_, dss_cons (ds_if (dt_cmp op_gt lift_B (de_ixV 0 (de_int) (fun _ _ => rfl)) (de_int) (nomark _)) (dss_cons (ds_set (i := 2) nd__law_draw rfl (by first | exact Or.inl rfl | exact Or.inr rfl) (de_op op_fdivW lift_IC (de_ixV 0 (de_int) (fun _ _ => rfl)) (de_var 1)))
    (dss_cons (ds_set (i := 3) nd__law_draw rfl (by first | exact Or.inl rfl | exact Or.inr rfl) (de_op op_sub lift_I (de_ixV 0 (de_int) (fun _ _ => rfl)) (de_op op_mulY lift_IC (de_var 2) (de_var 1))))
    (dss_cons (ds_setIx 0 (de_int) (de_var 2))
    (dss_one (ds_ret (de_var 3)))))) (dss_nil))
    (dss_cons (ds_setIx 0 (de_int) (de_op op_addA lift_add (de_ixV 0 (de_int) (fun _ _ => rfl)) (de_int)))
    (dss_cons (ds_set (i := 4) nd__law_draw rfl (by first | exact Or.inl rfl | exact Or.inr rfl) (de_op op_addA lift_add (de_ixV 0 (de_int) (fun _ _ => rfl)) (de_op op_mulY lift_IC (de_int) (de_ixV 0 (de_int) (fun _ _ => rfl)))))
    (dss_cons (ds_set (i := 4) nd__law_draw rfl (by first | exact Or.inl rfl | exact Or.inr rfl) (de_op op_mod lift_IC (de_callTy call_int1 lift_int rfl M.blt.int boot_int (da_cons (de_op op_addA lift_add (de_op op_mulY lift_IC (de_op op_mulY lift_IC (de_var 4) (de_var 4)) (de_var 4)) (de_op op_mulY lift_IC (de_int) (de_ixV 0 (de_int) (fun _ _ => rfl)))) (da_nil))) (de_op op_addA lift_add (de_op op_pow lift_IC (de_int) (de_int)) (de_int))))
    (dss_cons (ds_set (i := 4) nd__law_draw rfl (by first | exact Or.inl rfl | exact Or.inr rfl) (de_op op_mod lift_IC (de_callTy call_int1 lift_int rfl M.blt.int boot_int (da_cons (de_op op_addA lift_add (de_op op_mulY lift_IC (de_var 4) (de_var 4)) (de_int)) (da_nil))) (de_op op_addA lift_add (de_op op_pow lift_IC (de_int) (de_int)) (de_int))))
    (dss_one (ds_ret (de_op op_mod lift_IC (de_callTy call_int1 lift_int rfl M.blt.int boot_int (da_cons (de_op op_fdivW lift_IC (de_var 4) (de_op op_pow lift_IC (de_int) (de_int))) (da_nil))) (de_var 1))))))))⟩
theorem ok__law_draw (M : Mod K mg) : FnG P w K mg base 2 (He.ga K "_law_draw") M.fd__law_draw ["feed", "many"] (spF K (S__law_draw)) :=
  okF M.F__law_draw sc__law_draw (hl__law_draw) fun cdv A outer s H hgd hr => let ⟨t, D⟩ := d__law_draw M cdv A outer s H hgd hr
  ⟨t, _, D, vc__law_draw⟩
theorem bd__law_draw (M : Mod K mg) : Binds K M.fd__law_draw ["feed", "many"] [] := M.F__law_draw.bindsN fun _ _ _ _ _ _ us hl => match us, hl with | [_, _], _ => rfl
theorem cal__law_draw (M : Mod K mg) : Cal P w K mg base "_law_draw" 2 (He.ga K "_law_draw") M.fd__law_draw ["feed", "many"] (spF K (S__law_draw)) := ⟨ok__law_draw M, M.g__law_draw, M.F__law_draw.kp, bd__law_draw M⟩
theorem sc__law_one : FnScope N__law_one ["feed", "things"] (defScope s__law_one) := ⟨rfl, rfl, rfl, by decide +kernel, rfl, by decide +kernel, by decide +kernel⟩
theorem nd__law_one : N__law_one.Nodup := sc__law_one.nd
theorem d__law_one (M : Mod K mg) {f : Addr} (cdv : Value) (A : Around) (outer : List Env) (s : Shared) (H : Hp) (hgd : A.guards = some []) (hr : Room 2 (A.deeper (envOfC "_law_one" (defScope s__law_one) s.heap.objs.size f cdv))) :
    ∃ t, DSs (cxOf CX0 P w K mg base N__law_one "_law_one" (defScope s__law_one) f cdv A outer s H E0) (defBody s__law_one) t (w__law_one) := by
  have hp := owns (P := P) (w := w) (K := K) (mg := mg) (base := base) (N := N__law_one) (qual := "_law_one") (scope := defScope s__law_one) (f := f) (cd := cdv) (A := A) (outer := outer) (s := s) (H := H)
  exact ⟨_, dss_one (ds_ret (de_ix (de_var 1) (c_f 0 (cal__law_draw M) hgd (hr.mono (by decide)) (da_cons (de_callB call_len lift_len rfl M.blt.len boot_len (da_cons (de_var 1) (da_nil))) (da_nil))) (fun _ _ => rfl)))⟩
theorem ok__law_one (M : Mod K mg) : FnG P w K mg base 3 (He.ga K "_law_one") M.fd__law_one ["feed", "things"] (spF K (S__law_one)) :=
  okF M.F__law_one sc__law_one (hl__law_one) fun cdv A outer s H hgd hr => let ⟨t, D⟩ := d__law_one M cdv A outer s H hgd hr
  ⟨t, _, D, vc__law_one⟩
theorem bd__law_one (M : Mod K mg) : Binds K M.fd__law_one ["feed", "things"] [] := M.F__law_one.bindsN fun _ _ _ _ _ _ us hl => match us, hl with | [_, _], _ => rfl
theorem cal__law_one (M : Mod K mg) : Cal P w K mg base "_law_one" 3 (He.ga K "_law_one") M.fd__law_one ["feed", "things"] (spF K (S__law_one)) := ⟨ok__law_one M, M.g__law_one, M.F__law_one.kp, bd__law_one M⟩
theorem sc__law_mixed : FnScope N__law_mixed ["feed", "things"] (defScope s__law_mixed) := ⟨rfl, rfl, rfl, by decide +kernel, rfl, by decide +kernel, by decide +kernel⟩
theorem nd__law_mixed : N__law_mixed.Nodup := sc__law_mixed.nd
theorem d__law_mixed (M : Mod K mg) {f : Addr} (cdv : Value) (A : Around) (outer : List Env) (s : Shared) (H : Hp) (hgd : A.guards = some []) (hr : Room 2 (A.deeper (envOfC "_law_mixed" (defScope s__law_mixed) s.heap.objs.size f cdv))) :
    ∃ t, DSs (cxOf CX0 P w K mg base N__law_mixed "_law_mixed" (defScope s__law_mixed) f cdv A outer s H E0) (defBody s__law_mixed) t (w__law_mixed) := by
  have hp := owns (P := P) (w := w) (K := K) (mg := mg) (base := base) (N := N__law_mixed) (qual := "_law_mixed") (scope := defScope s__law_mixed) (f := f) (cd := cdv) (A := A) (outer := outer) (s := s) (H := H)
  exact ⟨_, dss_cons (ds_par (i := 2) (j := 3) rfl nd__law_mixed rfl rfl (by decide) rfl rfl (dr_cons (de_callTy call_list_of lift_list rfl M.blt.list boot_list (da_cons (de_var 1) (da_nil))) (dr_cons (de_lst (da_nil)) (dr_nil))) rfl)
    (dss_cons (ds_for hp rfl (di_range1 rfl M.blt.range (da_cons (de_callB call_len lift_len rfl M.blt.len boot_len (da_cons (de_var 1) (da_nil))) (da_nil))) (dg_name (i := 4) (x := "turn") nd__law_mixed rfl (by first | exact Or.inl rfl | exact Or.inr rfl)) (dss_one (ds_expr (de_append 3 (de_popAt 2 (c_f 0 (cal__law_draw M) hgd (hr.mono (by decide)) (da_cons (de_lenV 2 rfl M.blt.len) (da_nil))))))))
    (dss_one (ds_ret (de_var 3))))⟩
theorem ok__law_mixed (M : Mod K mg) : FnG P w K mg base 3 (He.ga K "_law_mixed") M.fd__law_mixed ["feed", "things"] (spF K (S__law_mixed)) :=
  okF M.F__law_mixed sc__law_mixed (hl__law_mixed) fun cdv A outer s H hgd hr => let ⟨t, D⟩ := d__law_mixed M cdv A outer s H hgd hr
  ⟨t, _, D, vc__law_mixed⟩
theorem bd__law_mixed (M : Mod K mg) : Binds K M.fd__law_mixed ["feed", "things"] [] := M.F__law_mixed.bindsN fun _ _ _ _ _ _ us hl => match us, hl with | [_, _], _ => rfl
theorem cal__law_mixed (M : Mod K mg) : Cal P w K mg base "_law_mixed" 3 (He.ga K "_law_mixed") M.fd__law_mixed ["feed", "things"] (spF K (S__law_mixed)) := ⟨ok__law_mixed M, M.g__law_mixed, M.F__law_mixed.kp, bd__law_mixed M⟩
theorem sc__law_pairs : FnScope N__law_pairs ["many"] (defScope s__law_pairs) := ⟨rfl, rfl, rfl, by decide +kernel, rfl, by decide +kernel, by decide +kernel⟩
theorem nd__law_pairs : N__law_pairs.Nodup := sc__law_pairs.nd
theorem d__law_pairs (M : Mod K mg) {f : Addr} (cdv : Value) (A : Around) (outer : List Env) (s : Shared) (H : Hp) (hgd : A.guards = some []) (hr : Room 1 (A.deeper (envOfC "_law_pairs" (defScope s__law_pairs) s.heap.objs.size f cdv))) :
    ∃ t, DSs0 (cxOf CX0 P w K mg base N__law_pairs "_law_pairs" (defScope s__law_pairs) f cdv A outer s H E0) (defBody s__law_pairs) t (w__law_pairs) := by
  have hp := owns (P := P) (w := w) (K := K) (mg := mg) (base := base) (N := N__law_pairs) (qual := "_law_pairs") (scope := defScope s__law_pairs) (f := f) (cd := cdv) (A := A) (outer := outer) (s := s) (H := H)
  exact ⟨_, dss_cons0 (ds_set (i := 1) nd__law_pairs rfl (by first | exact Or.inl rfl | exact Or.inr rfl) (de_lst (da_nil)))
    (dss_cons0 (ds_for hp rfl (di_range1 rfl M.blt.range (da_cons (de_var 0) (da_nil))) (dg_name (i := 2) (x := "other") nd__law_pairs rfl (by first | exact Or.inl rfl | exact Or.inr rfl)) (dss_one (ds_expr (de_extA 1 (de_lcF (own := [("one", 3)]) rfl nd__law_pairs (di_range1 rfl M.blt.range (da_cons (de_var 2) (da_nil))) (blkOk_by (by rfl)) (fun i0 => dg_name (i := 3) (x := "one") nd__law_pairs rfl (by first | exact Or.inl rfl | exact Or.inr rfl)) (fun i0 => dts_nil) (fun i0 => de_tup (da_cons (de_var 3) (da_cons (de_var 2) (da_nil)))))))))
    (ds_retO 1))⟩
theorem ok__law_pairs (M : Mod K mg) : FnG P w K mg base 2 (He.ga K "_law_pairs") M.fd__law_pairs ["many"] (spP K (S__law_pairs)) :=
  okP0 M.F__law_pairs sc__law_pairs (hl__law_pairs) fun cdv A outer s H hgd hr => let ⟨t, D⟩ := d__law_pairs M cdv A outer s H hgd hr
  ⟨t, _, D, vc__law_pairs⟩
theorem bd__law_pairs (M : Mod K mg) : Binds K M.fd__law_pairs ["many"] [] := M.F__law_pairs.bindsN fun _ _ _ _ _ _ us hl => match us, hl with | [_], _ => rfl
theorem cal__law_pairs (M : Mod K mg) : Cal P w K mg base "_law_pairs" 2 (He.ga K "_law_pairs") M.fd__law_pairs ["many"] (spP K (S__law_pairs)) := ⟨ok__law_pairs M, M.g__law_pairs, M.F__law_pairs.kp, bd__law_pairs M⟩
theorem sc__law_shared : FnScope N__law_shared ["feed", "pairs"] (defScope s__law_shared) := ⟨rfl, rfl, rfl, by decide +kernel, rfl, by decide +kernel, by decide +kernel⟩
theorem nd__law_shared : N__law_shared.Nodup := sc__law_shared.nd
theorem d__law_shared (M : Mod K mg) {f : Addr} (cdv : Value) (A : Around) (outer : List Env) (s : Shared) (H : Hp) (hgd : A.guards = some []) (hr : Room 3 (A.deeper (envOfC "_law_shared" (defScope s__law_shared) s.heap.objs.size f cdv))) :
    ∃ t, DSs (cxOf CX0 P w K mg base N__law_shared "_law_shared" (defScope s__law_shared) f cdv A outer s H E0) (defBody s__law_shared) t (w__law_shared) := by
  have hp := owns (P := P) (w := w) (K := K) (mg := mg) (base := base) (N := N__law_shared) (qual := "_law_shared") (scope := defScope s__law_shared) (f := f) (cd := cdv) (A := A) (outer := outer) (s := s) (H := H)
  exact ⟨_, dss_cons (DS.z 2 (ds_set (i := 2) nd__law_shared rfl (by first | exact Or.inl rfl | exact Or.inr rfl) (c_f 0 (cal__law_one M) hgd (hr.mono (by decide)) (da_cons (de_lst (da_cons (de_int) (da_cons (de_int) (da_cons (de_int) (da_cons (de_int) (da_cons (de_int) (da_cons (de_int) (da_cons (de_int) (da_nil))))))))) (da_nil)))))
    (dss_one (ds_ret (de_lcF (own := [("pair", 3)]) rfl nd__law_shared (di_any (de_var 1)) (blkOk_by (by rfl)) (fun i0 => dg_name (i := 3) (x := "pair") nd__law_shared rfl (by first | exact Or.inl rfl | exact Or.inr rfl)) (fun i0 => dts_one (dt_cmp (op_ltA hr.units0) lift_lt (c_f 0 (cal__law_draw M) hgd (hr.mono (by decide)) (da_cons (de_int) (da_nil))) (de_var 2) (nomark _))) (fun i0 => de_var 3))))⟩
theorem ok__law_shared (M : Mod K mg) : FnG P w K mg base 4 (He.ga K "_law_shared") M.fd__law_shared ["feed", "pairs"] (spF K (S__law_shared)) :=
  okF M.F__law_shared sc__law_shared (hl__law_shared) fun cdv A outer s H hgd hr => let ⟨t, D⟩ := d__law_shared M cdv A outer s H hgd hr
  ⟨t, _, D, vc__law_shared⟩
theorem bd__law_shared (M : Mod K mg) : Binds K M.fd__law_shared ["feed", "pairs"] [] := M.F__law_shared.bindsN fun _ _ _ _ _ _ us hl => match us, hl with | [_, _], _ => rfl
theorem cal__law_shared (M : Mod K mg) : Cal P w K mg base "_law_shared" 4 (He.ga K "_law_shared") M.fd__law_shared ["feed", "pairs"] (spF K (S__law_shared)) := ⟨ok__law_shared M, M.g__law_shared, M.F__law_shared.kp, bd__law_shared M⟩
theorem sc__law_tree_ties : FnScope N__law_tree_ties ["feed", "many"] (defScope s__law_tree_ties) := ⟨rfl, rfl, rfl, by decide +kernel, rfl, by decide +kernel, by decide +kernel⟩
theorem nd__law_tree_ties : N__law_tree_ties.Nodup := sc__law_tree_ties.nd
theorem d__law_tree_ties (M : Mod K mg) {f : Addr} (cdv : Value) (A : Around) (outer : List Env) (s : Shared) (H : Hp) (hgd : A.guards = some []) (hr : Room 2 (A.deeper (envOfC "_law_tree_ties" (defScope s__law_tree_ties) s.heap.objs.size f cdv))) :
    ∃ t, DSs (cxOf CX0 P w K mg base N__law_tree_ties "_law_tree_ties" (defScope s__law_tree_ties) f cdv A outer s H E0) (defBody s__law_tree_ties) t (w__law_tree_ties) := by
  have hp := owns (P := P) (w := w) (K := K) (mg := mg) (base := base) (N := N__law_tree_ties) (qual := "_law_tree_ties") (scope := defScope s__law_tree_ties) (f := f) (cd := cdv) (A := A) (outer := outer) (s := s) (H := H)
  exact ⟨_, dss_cons (DS.z 2 (ds_set (i := 2) nd__law_tree_ties rfl (by first | exact Or.inl rfl | exact Or.inr rfl) (c_f 0 (cal__law_draw M) hgd (hr.mono (by decide)) (da_cons (de_int) (da_nil)))))
    (dss_one (ds_ret (de_lcF (own := [("at", 3)]) rfl nd__law_tree_ties (di_range2 rfl M.blt.range (da_cons (de_int) (da_cons (de_var 1) (da_nil)))) (blkOk_by (by rfl)) (fun i0 => dg_name (i := 3) (x := "at") nd__law_tree_ties rfl (by first | exact Or.inl rfl | exact Or.inr rfl)) (fun i0 => dts_nil) (fun i0 => de_tup (da_cons (de_op op_sub lift_I (de_op op_sub lift_I (de_var 3) (de_int)) (de_ifExp (dt_cmp (op_eqA hr.units) lift_eq (de_var 2) (de_int) (nomark _)) (de_int) (de_ifExp (dt_cmp (op_eqA hr.units) lift_eq (de_var 2) (de_int) (nomark _)) (c_f 0 (cal__law_draw M) hgd (hr.mono (by decide)) (da_cons (de_callB (call_min2 rfl) lift_min2 rfl M.blt.min boot_min (da_cons (de_var 3) (da_cons (de_int) (da_nil)))) (da_nil))) (c_f 0 (cal__law_draw M) hgd (hr.mono (by decide)) (da_cons (de_var 3) (da_nil)))))) (da_cons (de_var 3) (da_nil)))))))⟩
theorem ok__law_tree_ties (M : Mod K mg) : FnG P w K mg base 3 (He.ga K "_law_tree_ties") M.fd__law_tree_ties ["feed", "many"] (spF K (S__law_tree_ties)) :=
  okF M.F__law_tree_ties sc__law_tree_ties (hl__law_tree_ties) fun cdv A outer s H hgd hr => let ⟨t, D⟩ := d__law_tree_ties M cdv A outer s H hgd hr
  ⟨t, _, D, vc__law_tree_ties⟩
theorem bd__law_tree_ties (M : Mod K mg) : Binds K M.fd__law_tree_ties ["feed", "many"] [] := M.F__law_tree_ties.bindsN fun _ _ _ _ _ _ us hl => match us, hl with | [_, _], _ => rfl
theorem cal__law_tree_ties (M : Mod K mg) : Cal P w K mg base "_law_tree_ties" 3 (He.ga K "_law_tree_ties") M.fd__law_tree_ties ["feed", "many"] (spF K (S__law_tree_ties)) := ⟨ok__law_tree_ties M, M.g__law_tree_ties, M.F__law_tree_ties.kp, bd__law_tree_ties M⟩
theorem sc__law_stacked_ties : FnScope N__law_stacked_ties ["feed", "many"] (defScope s__law_stacked_ties) := ⟨rfl, rfl, rfl, by decide +kernel, rfl, by decide +kernel, by decide +kernel⟩
theorem nd__law_stacked_ties : N__law_stacked_ties.Nodup := sc__law_stacked_ties.nd
theorem d__law_stacked_ties (M : Mod K mg) {f : Addr} (cdv : Value) (A : Around) (outer : List Env) (s : Shared) (H : Hp) (hgd : A.guards = some []) (hr : Room 2 (A.deeper (envOfC "_law_stacked_ties" (defScope s__law_stacked_ties) s.heap.objs.size f cdv))) :
    ∃ t, DSs (cxOf CX0 P w K mg base N__law_stacked_ties "_law_stacked_ties" (defScope s__law_stacked_ties) f cdv A outer s H E0) (defBody s__law_stacked_ties) t (w__law_stacked_ties) := by
  have hp := owns (P := P) (w := w) (K := K) (mg := mg) (base := base) (N := N__law_stacked_ties) (qual := "_law_stacked_ties") (scope := defScope s__law_stacked_ties) (f := f) (cd := cdv) (A := A) (outer := outer) (s := s) (H := H)
  exact ⟨_, dss_cons (ds_par (i := 2) (j := 3) rfl nd__law_stacked_ties rfl rfl (by decide) rfl rfl (dr_cons (c_p (cal__law_pairs M) hgd (hr.mono (by decide)) (da_cons (de_callB (call_min2 rfl) lift_min2 rfl M.blt.min boot_min (da_cons (de_var 1) (da_cons (de_int) (da_nil)))) (da_nil))) (dr_cons (de_lst (da_cons (de_tup (da_cons (de_int) (da_cons (de_int) (da_cons (de_int) (da_nil))))) (da_cons (de_tup (da_cons (de_int) (da_cons (de_int) (da_cons (de_int) (da_nil))))) (da_nil)))) (dr_nil))) rfl)
    (dss_cons (ds_for hp rfl (di_range2 rfl M.blt.range (da_cons (de_int) (da_cons (de_var 1) (da_nil)))) (dg_name (i := 4) (x := "thing") nd__law_stacked_ties rfl (by first | exact Or.inl rfl | exact Or.inr rfl)) (dss_cons (ds_asg (de_popAt 3 (c_f 0 (cal__law_draw M) hgd (hr.mono (by decide)) (da_cons (de_lenV 3 rfl M.blt.len) (da_nil)))) (dg_tup rfl (dgs_cons (dg_name (i := 5) (x := "one") nd__law_stacked_ties rfl (by first | exact Or.inl rfl | exact Or.inr rfl)) (dgs_cons (dg_name (i := 6) (x := "two") nd__law_stacked_ties rfl (by first | exact Or.inl rfl | exact Or.inr rfl)) (dgs_cons (dg_name (i := 7) (x := "three") nd__law_stacked_ties rfl (by first | exact Or.inl rfl | exact Or.inr rfl)) (dgs_nil))))))
    (dss_cons (ds_expr (de_extA 2 (de_lst (da_cons (de_tup (da_cons (de_var 5) (da_cons (de_var 4) (da_nil)))) (da_cons (de_tup (da_cons (de_var 6) (da_cons (de_var 4) (da_nil)))) (da_cons (de_tup (da_cons (de_var 7) (da_cons (de_var 4) (da_nil)))) (da_nil)))))))
    (dss_one (ds_expr (de_extA 3 (de_lst (da_cons (de_tup (da_cons (de_var 5) (da_cons (de_var 6) (da_cons (de_var 4) (da_nil))))) (da_cons (de_tup (da_cons (de_var 5) (da_cons (de_var 7) (da_cons (de_var 4) (da_nil))))) (da_cons (de_tup (da_cons (de_var 6) (da_cons (de_var 7) (da_cons (de_var 4) (da_nil))))) (da_nil)))))))))))
    (dss_one (ds_ret (de_var 2))))⟩
theorem ok__law_stacked_ties (M : Mod K mg) : FnG P w K mg base 3 (He.ga K "_law_stacked_ties") M.fd__law_stacked_ties ["feed", "many"] (spF K (S__law_stacked_ties)) :=
  okF M.F__law_stacked_ties sc__law_stacked_ties (hl__law_stacked_ties) fun cdv A outer s H hgd hr => let ⟨t, D⟩ := d__law_stacked_ties M cdv A outer s H hgd hr
  ⟨t, _, D, vc__law_stacked_ties⟩
theorem bd__law_stacked_ties (M : Mod K mg) : Binds K M.fd__law_stacked_ties ["feed", "many"] [] := M.F__law_stacked_ties.bindsN fun _ _ _ _ _ _ us hl => match us, hl with | [_, _], _ => rfl
theorem cal__law_stacked_ties (M : Mod K mg) : Cal P w K mg base "_law_stacked_ties" 3 (He.ga K "_law_stacked_ties") M.fd__law_stacked_ties ["feed", "many"] (spF K (S__law_stacked_ties)) := ⟨ok__law_stacked_ties M, M.g__law_stacked_ties, M.F__law_stacked_ties.kp, bd__law_stacked_ties M⟩
theorem sc__law_barred_ties : FnScope N__law_barred_ties ["feed", "many"] (defScope s__law_barred_ties) := ⟨rfl, rfl, rfl, by decide +kernel, rfl, by decide +kernel, by decide +kernel⟩
theorem nd__law_barred_ties : N__law_barred_ties.Nodup := sc__law_barred_ties.nd
theorem d__law_barred_ties (M : Mod K mg) {f : Addr} (cdv : Value) (A : Around) (outer : List Env) (s : Shared) (H : Hp) (hgd : A.guards = some []) (hr : Room 2 (A.deeper (envOfC "_law_barred_ties" (defScope s__law_barred_ties) s.heap.objs.size f cdv))) :
    ∃ t, DSs (cxOf CX0 P w K mg base N__law_barred_ties "_law_barred_ties" (defScope s__law_barred_ties) f cdv A outer s H E0) (defBody s__law_barred_ties) t (w__law_barred_ties) := by
  have hp := owns (P := P) (w := w) (K := K) (mg := mg) (base := base) (N := N__law_barred_ties) (qual := "_law_barred_ties") (scope := defScope s__law_barred_ties) (f := f) (cd := cdv) (A := A) (outer := outer) (s := s) (H := H)
  exact ⟨_, dss_cons (DS.z 2 (ds_set (i := 2) nd__law_barred_ties rfl (by first | exact Or.inl rfl | exact Or.inr rfl) (de_ifExp (DW.dt (dw_or (dt_cmp (op_ltA hr.units0) lift_lt (de_var 1) (de_int) (nomark _)) (dw_or1 (dt_cmp (op_eqA hr.units) lift_eq (c_f 0 (cal__law_draw M) hgd (hr.mono (by decide)) (da_cons (de_int) (da_nil))) (de_int) (nomark _))))) (de_int) (de_int))))
    (dss_cons (ds_set (i := 3) nd__law_barred_ties rfl (by first | exact Or.inl rfl | exact Or.inr rfl) (de_ifExp (dt_cmp (op_eqA hr.units) lift_eq (de_var 2) (de_int) (nomark _)) (c_p (cal__law_pairs M) hgd (hr.mono (by decide)) (da_cons (de_int) (da_nil))) (de_lcF (own := [("at", 4)]) rfl nd__law_barred_ties (di_range1 rfl M.blt.range (da_cons (de_int) (da_nil))) (blkOk_by (by rfl)) (fun i0 => dg_name (i := 4) (x := "at") nd__law_barred_ties rfl (by first | exact Or.inl rfl | exact Or.inr rfl)) (fun i0 => dts_nil) (fun i0 => de_tup (da_cons (de_op op_fdivW lift_IC (de_var 4) (de_int)) (da_cons (de_op op_addA lift_add (de_int) (de_op op_mod lift_IC (de_callTy call_int1 lift_int rfl M.blt.int boot_int (da_cons (de_var 4) (da_nil))) (de_int))) (da_nil)))))))
    (dss_cons (ds_for hp rfl (di_range2 rfl M.blt.range (da_cons (de_var 2) (da_cons (de_var 1) (da_nil)))) (dg_name (i := 5) (x := "thing") nd__law_barred_ties rfl (by first | exact Or.inl rfl | exact Or.inr rfl)) (dss_cons (DS.z 4 (ds_set (i := 4) nd__law_barred_ties rfl (by first | exact Or.inl rfl | exact Or.inr rfl) (c_f 0 (cal__law_draw M) hgd (hr.mono (by decide)) (da_cons (de_lenV 3 rfl M.blt.len) (da_nil)))))
    (dss_cons (ds_asg (de_ixV 3 (de_var 4) (fun _ _ => rfl)) (dg_tup rfl (dgs_cons (dg_name (i := 6) (x := "one") nd__law_barred_ties rfl (by first | exact Or.inl rfl | exact Or.inr rfl)) (dgs_cons (dg_name (i := 7) (x := "other") nd__law_barred_ties rfl (by first | exact Or.inl rfl | exact Or.inr rfl)) (dgs_nil)))))
    (dss_one (ds_set (i := 3) nd__law_barred_ties rfl (by first | exact Or.inl rfl | exact Or.inr rfl) (de_ifExp (dt_cmp op_gt lift_B (c_f 0 (cal__law_draw M) hgd (hr.mono (by decide)) (da_cons (de_int) (da_nil))) (de_int) (nomark _)) (de_cat (de_cat (de_slice sl_any lift_sl (de_var 3) (do_none) (do_some (de_var 4))) (de_lst (da_cons (de_tup (da_cons (de_var 6) (da_cons (de_var 5) (da_nil)))) (da_cons (de_tup (da_cons (de_var 5) (da_cons (de_var 7) (da_nil)))) (da_nil))))) (de_slice sl_any lift_sl (de_var 3) (do_some (de_op op_addA lift_add (de_var 4) (de_int))) (do_none))) (de_cat (de_var 3) (de_lst (da_cons (de_tup (da_cons (de_var 6) (da_cons (de_var 5) (da_nil)))) (da_nil))))))))))
    (dss_cons (ds_if (dt_cmp (op_eqA hr.units) lift_eq (c_f 0 (cal__law_draw M) hgd (hr.mono (by decide)) (da_cons (de_int) (da_nil))) (de_int) (nomark _)) (dss_one (ds_expr (de_popAt 3 (c_f 0 (cal__law_draw M) hgd (hr.mono (by decide)) (da_cons (de_lenV 3 rfl M.blt.len) (da_nil)))))) (dss_nil))
    (dss_one (ds_ret (de_op op_addA lift_add (de_var 3) (de_ifExp (dt_cmp (op_eqA hr.units) lift_eq (c_f 0 (cal__law_draw M) hgd (hr.mono (by decide)) (da_cons (de_int) (da_nil))) (de_int) (nomark _)) (de_slice sl_any lift_sl (c_p (cal__law_pairs M) hgd (hr.mono (by decide)) (da_cons (de_var 1) (da_nil))) (do_none) (do_some (c_f 0 (cal__law_draw M) hgd (hr.mono (by decide)) (da_cons (de_int) (da_nil))))) (de_lst (da_nil)))))))))⟩
theorem ok__law_barred_ties (M : Mod K mg) : FnG P w K mg base 3 (He.ga K "_law_barred_ties") M.fd__law_barred_ties ["feed", "many"] (spF K (S__law_barred_ties)) :=
  okF M.F__law_barred_ties sc__law_barred_ties (hl__law_barred_ties) fun cdv A outer s H hgd hr => let ⟨t, D⟩ := d__law_barred_ties M cdv A outer s H hgd hr
  ⟨t, _, D, vc__law_barred_ties⟩
theorem bd__law_barred_ties (M : Mod K mg) : Binds K M.fd__law_barred_ties ["feed", "many"] [] := M.F__law_barred_ties.bindsN fun _ _ _ _ _ _ us hl => match us, hl with | [_, _], _ => rfl
theorem cal__law_barred_ties (M : Mod K mg) : Cal P w K mg base "_law_barred_ties" 3 (He.ga K "_law_barred_ties") M.fd__law_barred_ties ["feed", "many"] (spF K (S__law_barred_ties)) := ⟨ok__law_barred_ties M, M.g__law_barred_ties, M.F__law_barred_ties.kp, bd__law_barred_ties M⟩
theorem sc__law_cube : FnScope N__law_cube ["feed", "many"] (defScope s__law_cube) := ⟨rfl, rfl, rfl, by decide +kernel, rfl, by decide +kernel, by decide +kernel⟩
theorem nd__law_cube : N__law_cube.Nodup := sc__law_cube.nd
theorem d__law_cube (M : Mod K mg) {f : Addr} (cdv : Value) (A : Around) (outer : List Env) (s : Shared) (H : Hp) (hgd : A.guards = some []) (hr : Room 3 (A.deeper (envOfC "_law_cube" (defScope s__law_cube) s.heap.objs.size f cdv))) :
    ∃ t, DSs (cxOf CX0 P w K mg base N__law_cube "_law_cube" (defScope s__law_cube) f cdv A outer s H E0) (defBody s__law_cube) t (w__law_cube) := by
  have hp := owns (P := P) (w := w) (K := K) (mg := mg) (base := base) (N := N__law_cube) (qual := "_law_cube") (scope := defScope s__law_cube) (f := f) (cd := cdv) (A := A) (outer := outer) (s := s) (H := H)
  exact ⟨_, dss_cons (DS.z 2 (ds_parC (i := 2) (j := 3) rfl nd__law_cube rfl rfl (by first | exact Or.inl rfl | exact Or.inr rfl) (by first | exact Or.inl rfl | exact Or.inr rfl) (dr_cons (c_f 0 (cal__law_one M) hgd (hr.mono (by decide)) (da_cons (de_lst (da_cons (de_int) (da_cons (de_int) (da_cons (de_int) (da_cons (de_int) (da_cons (de_int) (da_nil))))))) (da_nil))) (dr_cons (de_lst (da_cons (de_op op_repT lift_repT (de_tup (da_cons (de_int) (da_nil))) (de_int)) (da_nil))) (dr_nil))) rfl rfl))
    (dss_cons (ds_for hp rfl (di_range1 rfl M.blt.range (da_cons (de_op op_mulY lift_IC (de_int) (de_var 1)) (da_nil))) (dg_name (i := 4) (x := "turn") nd__law_cube rfl (by first | exact Or.inl rfl | exact Or.inr rfl)) (dss_cons (DS.z 6 (DS.z 5 (ds_par (i := 5) (j := 6) rfl nd__law_cube rfl rfl (by decide) rfl rfl (dr_cons (de_hold 3 (c_f 0 (cal__law_one M) hgd (hr.mono (by decide)) (da_cons (de_var 3) (da_nil)))) (dr_cons (c_f 0 (cal__law_draw M) hgd (hr.mono (by decide)) (da_cons (de_var 2) (da_nil))) (dr_nil))) rfl)))
    (dss_cons (ds_set (i := 5) nd__law_cube rfl (by first | exact Or.inl rfl | exact Or.inr rfl) (de_op op_addA lift_add (de_op op_addA lift_add (de_slice sl_any lift_sl (de_var 5) (do_none) (do_some (de_var 6))) (de_tup (da_cons (de_op op_sub lift_I (de_int) (de_ix (de_var 5) (de_var 6) (fun _ _ => rfl))) (da_nil)))) (de_slice sl_any lift_sl (de_var 5) (do_some (de_op op_addA lift_add (de_var 6) (de_int))) (do_none))))
    (dss_one (ds_if (DW.dt (dw_and (dt_cmp (op_ltA hr.units0) lift_lt (de_lenV 3 rfl M.blt.len) (de_var 1) (nomark _)) (dw_and1 (dt_hold 3 (dt_cmp (op_notInX (units65 hr)) lift_inX (de_var 5) (de_var 3) rfl) (de_cmp (op_notInX (units65 hr)) lift_inX (de_var 5) (de_var 3) rfl))))) (dss_one (ds_expr (de_append 3 (de_var 5)))) (dss_nil))))))
    (dss_cons (DS.z 7 (ds_setLcF (i := 7) (own := [("one", 8), ("other", 9)]) rfl nd__law_cube rfl rfl rfl (di_any (c_p (cal__law_pairs M) hgd (hr.mono (by decide)) (da_cons (de_lenV 3 rfl M.blt.len) (da_nil)))) (blkOk_by (by rfl)) (fun i0 => dg_tup rfl (dgs_cons (dg_name (i := 8) (x := "one") nd__law_cube rfl (by first | exact Or.inl rfl | exact Or.inr rfl)) (dgs_cons (dg_name (i := 9) (x := "other") nd__law_cube rfl (by first | exact Or.inl rfl | exact Or.inr rfl)) (dgs_nil)))) (fun i0 => dts_one (dt_cmp (op_eqA hr.units) lift_eq (de_callB call_len lift_len rfl M.blt.len boot_len (da_cons (de_lcF (own := [("a", 10), ("b", 11)]) rfl nd__law_cube (di_zip rfl M.blt.zip (da_cons (de_ixV 3 (de_var 8) (fun _ _ => rfl)) (da_cons (de_ixV 3 (de_var 9) (fun _ _ => rfl)) (da_nil)))) (blkOk_by (by rfl)) (fun i0 => dg_tup rfl (dgs_cons (dg_name (i := 10) (x := "a") nd__law_cube rfl (by first | exact Or.inl rfl | exact Or.inr rfl)) (dgs_cons (dg_name (i := 11) (x := "b") nd__law_cube rfl (by first | exact Or.inl rfl | exact Or.inr rfl)) (dgs_nil)))) (fun i0 => dts_one (dt_cmp (op_neA hr.units) lift_ne (de_var 10) (de_var 11) (nomark _))) (fun i0 => de_int)) (da_nil))) (de_int) (nomark _))) (fun i0 => de_tup (da_cons (de_var 8) (da_cons (de_var 9) (da_nil))))))
    (dss_one (ds_ret (de_tup (da_cons (de_lenV 3 rfl M.blt.len) (da_cons (de_var 7) (da_nil))))))))⟩
theorem ok__law_cube (M : Mod K mg) : FnG P w K mg base 4 (He.ga K "_law_cube") M.fd__law_cube ["feed", "many"] (spF K (S__law_cube)) :=
  okF M.F__law_cube sc__law_cube (hl__law_cube) fun cdv A outer s H hgd hr => let ⟨t, D⟩ := d__law_cube M cdv A outer s H hgd hr
  ⟨t, _, D, vc__law_cube⟩
theorem bd__law_cube (M : Mod K mg) : Binds K M.fd__law_cube ["feed", "many"] [] := M.F__law_cube.bindsN fun _ _ _ _ _ _ us hl => match us, hl with | [_, _], _ => rfl
theorem cal__law_cube (M : Mod K mg) : Cal P w K mg base "_law_cube" 4 (He.ga K "_law_cube") M.fd__law_cube ["feed", "many"] (spF K (S__law_cube)) := ⟨ok__law_cube M, M.g__law_cube, M.F__law_cube.kp, bd__law_cube M⟩
theorem sc__law_made : FnScope N__law_made ["many", "ties"] (defScope s__law_made) := ⟨rfl, rfl, rfl, by decide +kernel, rfl, by decide +kernel, by decide +kernel⟩
theorem nd__law_made : N__law_made.Nodup := sc__law_made.nd
theorem d__law_made (M : Mod K mg) {f : Addr} (cdv : Value) (A : Around) (outer : List Env) (s : Shared) (H : Hp) (hgd : A.guards = some []) (hr : Room 1 (A.deeper (envOfC "_law_made" (defScope s__law_made) s.heap.objs.size f cdv))) :
    ∃ t, DSs (cxOf CX0 P w K mg base N__law_made "_law_made" (defScope s__law_made) f cdv A outer s H E0) (defBody s__law_made) t (w__law_made) := by
  have hp := owns (P := P) (w := w) (K := K) (mg := mg) (base := base) (N := N__law_made) (qual := "_law_made") (scope := defScope s__law_made) (f := f) (cd := cdv) (A := A) (outer := outer) (s := s) (H := H)
  exact ⟨_, dss_one (ds_ret (de_tup (da_cons (de_var 0) (da_cons (de_callTy call_tuple_of lift_tuple rfl M.blt.tuple boot_tuple (da_cons (de_sortedSet rfl hr.units rfl M.blt.sorted rfl M.blt.set (de_lcF (own := [("one", 2), ("other", 3)]) rfl nd__law_made (di_any (de_var 1)) (blkOk_by (by rfl)) (fun i0 => dg_tup rfl (dgs_cons (dg_name (i := 2) (x := "one") nd__law_made rfl (by first | exact Or.inl rfl | exact Or.inr rfl)) (dgs_cons (dg_name (i := 3) (x := "other") nd__law_made rfl (by first | exact Or.inl rfl | exact Or.inr rfl)) (dgs_nil)))) (fun i0 => dts_one (dt_cmp (op_neA hr.units) lift_ne (de_var 2) (de_var 3) (nomark _))) (fun i0 => de_tup (da_cons (de_callB (call_min2 rfl) lift_min2 rfl M.blt.min boot_min (da_cons (de_var 2) (da_cons (de_var 3) (da_nil)))) (da_cons (de_callB (call_max2 rfl) lift_max2 rfl M.blt.max boot_max (da_cons (de_var 2) (da_cons (de_var 3) (da_nil)))) (da_nil)))))) (da_nil))) (da_nil)))))⟩
theorem ok__law_made (M : Mod K mg) : FnG P w K mg base 2 (He.ga K "_law_made") M.fd__law_made ["many", "ties"] (spP K (S__law_made)) :=
  okP M.F__law_made sc__law_made (hl__law_made) fun cdv A outer s H hgd hr => let ⟨t, D⟩ := d__law_made M cdv A outer s H hgd hr
  ⟨t, _, D, vc__law_made⟩
theorem bd__law_made (M : Mod K mg) : Binds K M.fd__law_made ["many", "ties"] [] := M.F__law_made.bindsN fun _ _ _ _ _ _ us hl => match us, hl with | [_, _], _ => rfl
theorem cal__law_made (M : Mod K mg) : Cal P w K mg base "_law_made" 2 (He.ga K "_law_made") M.fd__law_made ["many", "ties"] (spP K (S__law_made)) := ⟨ok__law_made M, M.g__law_made, M.F__law_made.kp, bd__law_made M⟩
theorem sc__law_web : FnScope N__law_web ["feed", "most"] (defScope s__law_web) := ⟨rfl, rfl, rfl, by decide +kernel, rfl, by decide +kernel, by decide +kernel⟩
theorem nd__law_web : N__law_web.Nodup := sc__law_web.nd
theorem d__law_web (M : Mod K mg) {f : Addr} (cdv : Value) (A : Around) (outer : List Env) (s : Shared) (H : Hp) (hgd : A.guards = some []) (hr : Room 4 (A.deeper (envOfC "_law_web" (defScope s__law_web) s.heap.objs.size f cdv))) :
    ∃ t, DSs (cxOf CX0 P w K mg base N__law_web "_law_web" (defScope s__law_web) f cdv A outer s H E0) (defBody s__law_web) t (w__law_web) := by
  have hp := owns (P := P) (w := w) (K := K) (mg := mg) (base := base) (N := N__law_web) (qual := "_law_web") (scope := defScope s__law_web) (f := f) (cd := cdv) (A := A) (outer := outer) (s := s) (H := H)
  exact ⟨_, dss_cons (DS.z 3 (DS.z 2 (ds_parC (i := 2) (j := 3) rfl nd__law_web rfl rfl (by first | exact Or.inl rfl | exact Or.inr rfl) (by first | exact Or.inl rfl | exact Or.inr rfl) (dr_cons (c_f 0 (cal__law_one M) hgd (hr.mono (by decide)) (da_cons (de_lst (da_cons (de_var 1) (da_cons (de_var 1) (da_cons (de_callB (call_max2 rfl) lift_max2 rfl M.blt.max boot_max (da_cons (de_int) (da_cons (de_op op_sub lift_I (de_var 1) (de_int)) (da_nil)))) (da_cons (de_callB (call_min2 rfl) lift_min2 rfl M.blt.min boot_min (da_cons (de_var 1) (da_cons (de_int) (da_nil)))) (da_cons (c_f 0 (cal__law_draw M) hgd (hr.mono (by decide)) (da_cons (de_op op_addA lift_add (de_var 1) (de_int)) (da_nil))) (da_nil))))))) (da_nil))) (dr_cons (c_f 0 (cal__law_draw M) hgd (hr.mono (by decide)) (da_cons (de_int) (da_nil))) (dr_nil))) rfl rfl)))
    (dss_cons (DS.z 4 (ds_set (i := 4) nd__law_web rfl (by first | exact Or.inl rfl | exact Or.inr rfl) (c_p (cal__law_pairs M) hgd (hr.mono (by decide)) (da_cons (de_var 2) (da_nil)))))
    (dss_cons (DS.z 5 (ds_set (i := 5) nd__law_web rfl (by first | exact Or.inl rfl | exact Or.inr rfl) (c_f 0 (cal__law_shared M) hgd (hr.mono (by decide)) (da_cons (de_var 4) (da_nil)))))
    (dss_cons (ds_if (dt_cmp (op_eqA hr.units) lift_eq (de_var 3) (de_int) (nomark _)) (dss_one (DS.z 5 (ds_set (i := 5) nd__law_web rfl (by first | exact Or.inl rfl | exact Or.inr rfl) (c_f 0 (cal__law_tree_ties M) hgd (hr.mono (by decide)) (da_cons (de_var 2) (da_nil)))))) (dss_one (ds_if (dt_cmp (op_eqA hr.units) lift_eq (de_var 3) (de_int) (nomark _)) (dss_one (DS.z 5 (ds_set (i := 5) nd__law_web rfl (by first | exact Or.inl rfl | exact Or.inr rfl) (de_op op_addA lift_add (de_lcF (own := [("at", 6)]) rfl nd__law_web (di_range1 rfl M.blt.range (da_cons (de_var 2) (da_nil))) (blkOk_by (by rfl)) (fun i0 => dg_name (i := 6) (x := "at") nd__law_web rfl (by first | exact Or.inl rfl | exact Or.inr rfl)) (fun i0 => dts_nil) (fun i0 => de_tup (da_cons (de_op op_mod lift_IC (de_callTy call_int1 lift_int rfl M.blt.int boot_int (da_cons (de_op op_addA lift_add (de_var 6) (de_int)) (da_nil))) (de_var 2)) (da_cons (de_var 6) (da_nil))))) (de_lcF (own := [("pair", 7)]) rfl nd__law_web (di_any (de_var 4)) (blkOk_by (by rfl)) (fun i0 => dg_name (i := 7) (x := "pair") nd__law_web rfl (by first | exact Or.inl rfl | exact Or.inr rfl)) (fun i0 => dts_one (dt_cmp (op_eqA hr.units) lift_eq (c_f 0 (cal__law_draw M) hgd (hr.mono (by decide)) (da_cons (de_int) (da_nil))) (de_int) (nomark _))) (fun i0 => de_var 7)))))) (dss_one (ds_if (dt_cmp (op_ltA hr.units0) lift_lt (de_var 3) (de_int) (nomark _)) (dss_one (DS.z 5 (ds_setLcF (i := 5) (own := [("pair", 7)]) rfl nd__law_web rfl rfl rfl (di_any (c_f 0 (cal__law_stacked_ties M) hgd (hr.mono (by decide)) (da_cons (de_var 2) (da_nil)))) (blkOk_by (by rfl)) (fun i0 => dg_name (i := 7) (x := "pair") nd__law_web rfl (by first | exact Or.inl rfl | exact Or.inr rfl)) (fun i0 => dts_one (DW.dt (dw_or (dt_cmp (op_eqA hr.units) lift_eq (de_var 3) (de_int) (nomark _)) (dw_or1 (dt_cmp op_gt lift_B (c_f 0 (cal__law_draw M) hgd (hr.mono (by decide)) (da_cons (de_int) (da_nil))) (de_int) (nomark _)))))) (fun i0 => de_var 7)))) (dss_one (ds_if (dt_cmp (op_eqA hr.units) lift_eq (de_var 3) (de_int) (nomark _)) (dss_cons (DS.z 8 (ds_set (i := 8) nd__law_web rfl (by first | exact Or.inl rfl | exact Or.inr rfl) (de_lcF (own := [("thing", 9)]) rfl nd__law_web (di_range1 rfl M.blt.range (da_cons (de_var 2) (da_nil))) (blkOk_by (by rfl)) (fun i0 => dg_name (i := 9) (x := "thing") nd__law_web rfl (by first | exact Or.inl rfl | exact Or.inr rfl)) (fun i0 => dts_nil) (fun i0 => c_f 0 (cal__law_draw M) hgd (hr.mono (by decide)) (da_cons (de_int) (da_nil))))))
    (dss_one (DS.z 5 (ds_setLcF (i := 5) (own := [("pair", 7)]) rfl nd__law_web rfl rfl rfl (di_any (de_var 4)) (blkOk_by (by rfl)) (fun i0 => dg_name (i := 7) (x := "pair") nd__law_web rfl (by first | exact Or.inl rfl | exact Or.inr rfl)) (fun i0 => dts_one (DW.dt (dw_and (dt_cmp (op_neA hr.units) lift_ne (de_ix (de_var 8) (de_ix (de_var 7) (de_int) (fun _ _ => rfl)) (fun _ _ => rfl)) (de_ix (de_var 8) (de_ix (de_var 7) (de_int) (fun _ _ => rfl)) (fun _ _ => rfl)) (nomark _)) (dw_and1 (dt_cmp op_gt lift_B (c_f 0 (cal__law_draw M) hgd (hr.mono (by decide)) (da_cons (de_int) (da_nil))) (de_int) (nomark _)))))) (fun i0 => de_var 7))))) (dss_one (ds_if (DW.dt (dw_and (dt_cmp (op_eqA hr.units) lift_eq (de_var 3) (de_int) (nomark _)) (dw_and1 (dt_cmp op_gt lift_B (de_var 2) (de_int) (nomark _))))) (dss_one (DS.z 5 (ds_set (i := 5) nd__law_web rfl (by first | exact Or.inl rfl | exact Or.inr rfl) (c_f 0 (cal__law_barred_ties M) hgd (hr.mono (by decide)) (da_cons (de_var 2) (da_nil)))))) (dss_one (ds_if (dt_cmp (op_eqA hr.units) lift_eq (de_var 3) (de_int) (nomark _)) (dss_cons (DS.z 10 (ds_set (i := 10) nd__law_web rfl (by first | exact Or.inl rfl | exact Or.inr rfl) (c_f 0 (cal__law_tree_ties M) hgd (hr.mono (by decide)) (da_cons (de_var 2) (da_nil)))))
    (dss_one (DS.z 5 (ds_setLcF (i := 5) (own := [("pair", 7)]) rfl nd__law_web rfl rfl rfl (di_any (de_var 4)) (blkOk_by (by rfl)) (fun i0 => dg_name (i := 7) (x := "pair") nd__law_web rfl (by first | exact Or.inl rfl | exact Or.inr rfl)) (fun i0 => dts_one (dt_cmp (op_notInX (units65 hr)) lift_inX (de_var 7) (de_var 10) rfl)) (fun i0 => de_var 7))))) (dss_one (ds_if (dt_cmp (op_eqA hr.units) lift_eq (de_var 3) (de_int) (nomark _)) (dss_cons (DS.z 12 (DS.z 11 (ds_parC (i := 11) (j := 12) rfl nd__law_web rfl rfl (by first | exact Or.inl rfl | exact Or.inr rfl) (by first | exact Or.inl rfl | exact Or.inr rfl) (dr_cons (c_f 0 (cal__law_draw M) hgd (hr.mono (by decide)) (da_cons (de_op op_addA lift_add (de_var 2) (de_int)) (da_nil))) (dr_cons (c_f 0 (cal__law_draw M) hgd (hr.mono (by decide)) (da_cons (de_int) (da_nil))) (dr_nil))) rfl rfl)))
    (dss_one (DS.z 5 (ds_setLcF (i := 5) (own := [("pair", 7)]) rfl nd__law_web rfl rfl rfl (di_any (de_var 4)) (blkOk_by (by rfl)) (fun i0 => dg_name (i := 7) (x := "pair") nd__law_web rfl (by first | exact Or.inl rfl | exact Or.inr rfl)) (fun i0 => dts_one (dt_ifV (dt_cmp (op_neA hr.units) lift_ne (de_cmp (op_ltA hr.units0) lift_lt (de_ix (de_var 7) (de_int) (fun _ _ => rfl)) (de_var 11) (nomark _)) (de_cmp (op_ltA hr.units0) lift_lt (de_ix (de_var 7) (de_int) (fun _ _ => rfl)) (de_var 11) (nomark _)) (nomark _)) (dt_cmp (op_eqA hr.units) lift_eq (de_var 12) (de_int) (nomark _)) (dt_cmp (op_eqA hr.units) lift_eq (c_f 0 (cal__law_draw M) hgd (hr.mono (by decide)) (da_cons (de_int) (da_nil))) (de_int) (nomark _)))) (fun i0 => de_var 7))))) (dss_one (ds_if (dt_cmp (op_eqA hr.units) lift_eq (de_var 3) (de_int) (nomark _)) (dss_cons (ds_set (i := 13) nd__law_web rfl (by first | exact Or.inl rfl | exact Or.inr rfl) (de_op op_addA lift_add (de_int) (c_f 0 (cal__law_draw M) hgd (hr.mono (by decide)) (da_cons (de_int) (da_nil)))))
    (dss_one (DS.z 5 (ds_setLcF (i := 5) (own := [("pair", 7)]) rfl nd__law_web rfl rfl rfl (di_any (de_var 4)) (blkOk_by (by rfl)) (fun i0 => dg_name (i := 7) (x := "pair") nd__law_web rfl (by first | exact Or.inl rfl | exact Or.inr rfl)) (fun i0 => dts_one (DW.dt (dw_or (dt_cmp (op_eqA hr.units) lift_eq (de_ix (de_var 7) (de_int) (fun _ _ => rfl)) (de_op op_addA lift_add (de_ix (de_var 7) (de_int) (fun _ _ => rfl)) (de_var 13)) (nomark _)) (dw_or1 (DW.dt (dw_and (dt_cmp (op_eqA hr.units) lift_eq (de_ix (de_var 7) (de_int) (fun _ _ => rfl)) (de_op op_addA lift_add (de_ix (de_var 7) (de_int) (fun _ _ => rfl)) (de_int)) (nomark _)) (dw_and1 (dt_cmp op_gt lift_B (de_op op_mod lift_IC (de_callTy call_int1 lift_int rfl M.blt.int boot_int (da_cons (de_ix (de_var 7) (de_int) (fun _ _ => rfl)) (da_nil))) (de_var 13)) (de_int) (nomark _))))))))) (fun i0 => de_var 7))))) (dss_one (ds_if (dt_cmp (op_eqA hr.units) lift_eq (de_var 3) (de_int) (nomark _)) (dss_one (ds_asg (c_f 0 (cal__law_cube M) hgd (hr.mono (by decide)) (da_cons (de_var 2) (da_nil))) (dg_tup rfl (dgs_cons (dg_name (i := 2) (x := "many") nd__law_web rfl (by first | exact Or.inl rfl | exact Or.inr rfl)) (dgs_cons (dg_name (i := 5) (x := "ties") nd__law_web rfl (by first | exact Or.inl rfl | exact Or.inr rfl)) (dgs_nil)))))) (dss_nil))))))))))))))))))
    (dss_cons (DS.z 14 (ds_set (i := 14) nd__law_web rfl (by first | exact Or.inl rfl | exact Or.inr rfl) (c_f 0 (cal__law_mixed M) hgd (hr.mono (by decide)) (da_cons (de_listRg1 rfl rfl M.blt.list rfl M.blt.range (de_var 2)) (da_nil)))))
    (dss_one (ds_ret (c_p (cal__law_made M) hgd (hr.mono (by decide)) (da_cons (de_var 2) (da_cons (de_lcF (own := [("one", 15), ("other", 16)]) rfl nd__law_web (di_any (de_var 5)) (blkOk_by (by rfl)) (fun i0 => dg_tup rfl (dgs_cons (dg_name (i := 15) (x := "one") nd__law_web rfl (by first | exact Or.inl rfl | exact Or.inr rfl)) (dgs_cons (dg_name (i := 16) (x := "other") nd__law_web rfl (by first | exact Or.inl rfl | exact Or.inr rfl)) (dgs_nil)))) (fun i0 => dts_nil) (fun i0 => de_tup (da_cons (de_ix (de_var 14) (de_var 15) (fun _ _ => rfl)) (da_cons (de_ix (de_var 14) (de_var 16) (fun _ _ => rfl)) (da_nil))))) (da_nil))))))))))⟩
theorem ok__law_web (M : Mod K mg) : FnG P w K mg base 5 (He.ga K "_law_web") M.fd__law_web ["feed", "most"] (spF K (S__law_web)) :=
  okF M.F__law_web sc__law_web (hl__law_web) fun cdv A outer s H hgd hr => let ⟨t, D⟩ := d__law_web M cdv A outer s H hgd hr
  ⟨t, _, D, vc__law_web⟩
theorem bd__law_web (M : Mod K mg) : Binds K M.fd__law_web ["feed", "most"] [] := M.F__law_web.bindsN fun _ _ _ _ _ _ us hl => match us, hl with | [_, _], _ => rfl
theorem cal__law_web (M : Mod K mg) : Cal P w K mg base "_law_web" 5 (He.ga K "_law_web") M.fd__law_web ["feed", "most"] (spF K (S__law_web)) := ⟨ok__law_web M, M.g__law_web, M.F__law_web.kp, bd__law_web M⟩
theorem sc_renamed_web : FnScope N_renamed_web ["web", "order"] (defScope s_renamed_web) := ⟨rfl, rfl, rfl, by decide +kernel, rfl, by decide +kernel, by decide +kernel⟩
theorem nd_renamed_web : N_renamed_web.Nodup := sc_renamed_web.nd
theorem d_renamed_web (M : Mod K mg) {f : Addr} (cdv : Value) (A : Around) (outer : List Env) (s : Shared) (H : Hp) (hgd : A.guards = some []) (hr : Room 1 (A.deeper (envOfC "renamed_web" (defScope s_renamed_web) s.heap.objs.size f cdv))) :
    ∃ t, DSs (cxOf CX0 P w K mg base N_renamed_web "renamed_web" (defScope s_renamed_web) f cdv A outer s H E0) (defBody s_renamed_web) t (w_renamed_web) := by
  have hp := owns (P := P) (w := w) (K := K) (mg := mg) (base := base) (N := N_renamed_web) (qual := "renamed_web") (scope := defScope s_renamed_web) (f := f) (cd := cdv) (A := A) (outer := outer) (s := s) (H := H)
  exact ⟨_, dss_cons (ds_set (i := 2) nd_renamed_web rfl (by first | exact Or.inl rfl | exact Or.inr rfl) (de_dcF (own := [("at", 3), ("thing", 4)]) rfl nd_renamed_web (di_enumX rfl M.blt.enumerate (da_cons (de_var 1) (da_nil))) (blkOk_by (by rfl)) (fun i0 => dg_tup rfl (dgs_cons (dg_name (i := 3) (x := "at") nd_renamed_web rfl (by first | exact Or.inl rfl | exact Or.inr rfl)) (dgs_cons (dg_name (i := 4) (x := "thing") nd_renamed_web rfl (by first | exact Or.inl rfl | exact Or.inr rfl)) (dgs_nil)))) (fun i0 => dts_nil) (fun i0 => de_var 4) (fun i0 => de_var 3)))
    (dss_cons (DS.z 5 (ds_setLcF (i := 5) (own := [("one", 6), ("other", 7)]) rfl nd_renamed_web rfl rfl rfl (di_any (de_ix (de_var 0) (de_int) (fun _ _ => rfl))) (blkOk_by (by rfl)) (fun i0 => dg_tup rfl (dgs_cons (dg_name (i := 6) (x := "one") nd_renamed_web rfl (by first | exact Or.inl rfl | exact Or.inr rfl)) (dgs_cons (dg_name (i := 7) (x := "other") nd_renamed_web rfl (by first | exact Or.inl rfl | exact Or.inr rfl)) (dgs_nil)))) (fun i0 => dts_nil) (fun i0 => de_callTy call_tuple_of lift_tuple rfl M.blt.tuple boot_tuple (da_cons (de_callB (cr_sortedD hr.units) lift_sorted rfl M.blt.sorted boot_sorted (da_cons (de_lst (da_cons (de_dget 2 (units1 hr) (de_var 6) (fun _ _ => rfl)) (da_cons (de_dget 2 (units1 hr) (de_var 7) (fun _ _ => rfl)) (da_nil)))) (da_nil))) (da_nil)))))
    (dss_one (ds_ret (de_tup (da_cons (de_ix (de_var 0) (de_int) (fun _ _ => rfl)) (da_cons (de_callTy call_tuple_of lift_tuple rfl M.blt.tuple boot_tuple (da_cons (de_callB (cr_sortedD hr.units) lift_sorted rfl M.blt.sorted boot_sorted (da_cons (de_var 5) (da_nil))) (da_nil))) (da_nil)))))))⟩
theorem ok_renamed_web (M : Mod K mg) : FnG P w K mg base 2 (He.ga K "renamed_web") M.fd_renamed_web ["web", "order"] (spP K (S_renamed_web)) :=
  okP M.F_renamed_web sc_renamed_web (hl_renamed_web) fun cdv A outer s H hgd hr => let ⟨t, D⟩ := d_renamed_web M cdv A outer s H hgd hr
  ⟨t, _, D, vc_renamed_web⟩
theorem bd_renamed_web (M : Mod K mg) : Binds K M.fd_renamed_web ["web", "order"] [] := M.F_renamed_web.bindsN fun _ _ _ _ _ _ us hl => match us, hl with | [_, _], _ => rfl
theorem cal_renamed_web (M : Mod K mg) : Cal P w K mg base "renamed_web" 2 (He.ga K "renamed_web") M.fd_renamed_web ["web", "order"] (spP K (S_renamed_web)) := ⟨ok_renamed_web M, M.g_renamed_web, M.F_renamed_web.kp, bd_renamed_web M⟩
theorem sc_Ties_are_tied : FnScope N_Ties_are_tied ["self", "one", "other"] (defScope s_Ties_are_tied) := ⟨rfl, rfl, rfl, by decide +kernel, rfl, by decide +kernel, by decide +kernel⟩
theorem nd_Ties_are_tied : N_Ties_are_tied.Nodup := sc_Ties_are_tied.nd
theorem d_Ties_are_tied (M : Mod K mg) {f : Addr} (cdv : Value) (A : Around) (outer : List Env) (s : Shared) (H : Hp) (hgd : A.guards = some []) (hr : Room 1 (A.deeper (envOfC "Ties.are_tied" (defScope s_Ties_are_tied) s.heap.objs.size f cdv))) :
    ∃ t, DSs (cxOf CX0 P w K mg base N_Ties_are_tied "Ties.are_tied" (defScope s_Ties_are_tied) f cdv A outer s H E0) (defBody s_Ties_are_tied) t (w_Ties_are_tied (He.ga K "Ties")) := by
  have hp := owns (P := P) (w := w) (K := K) (mg := mg) (base := base) (N := N_Ties_are_tied) (qual := "Ties.are_tied") (scope := defScope s_Ties_are_tied) (f := f) (cd := cdv) (A := A) (outer := outer) (s := s) (H := H)
  exact ⟨_, dss_one (ds_ret (de_cmp (op_eqA hr.units) lift_eq (de_op op_and lift_I (de_op op_shr lift_IC (de_ix (de_fld (de_var 0) M.c_Ties M.n_Ties_to) (de_var 1) (fun _ _ => rfl)) (de_var 2)) (de_int)) (de_int) (nomark _)))⟩
theorem ok_Ties_are_tied (M : Mod K mg) : FnG P w K mg base 2 (He.ma K (He.ga K "Ties") "are_tied") M.fd_Ties_are_tied ["self", "one", "other"] (spP K (S_Ties_are_tied (He.ga K "Ties"))) :=
  okP M.F_Ties_are_tied sc_Ties_are_tied (hl_Ties_are_tied (He.ga K "Ties")) fun cdv A outer s H hgd hr => let ⟨t, D⟩ := d_Ties_are_tied M cdv A outer s H hgd hr
  ⟨t, _, D, vc_Ties_are_tied (He.ga K "Ties")⟩
theorem bd_Ties_are_tied (M : Mod K mg) : Binds K M.fd_Ties_are_tied ["self", "one", "other"] [] := M.F_Ties_are_tied.bindsN fun _ _ _ _ _ _ us hl => match us, hl with | [_, _, _], _ => rfl
theorem sc_Ties___init__ : FnScope ["self", "web", "one", "other"] ["self", "web"] (defScope s_Ties___init__) := ⟨rfl, rfl, rfl, by decide +kernel, rfl, by decide +kernel, by decide +kernel⟩
theorem ok_init (M : Mod K mg) : FnOk P w K mg base CX0 2 (He.ma K (He.ga K "Ties") "__init__") M.fd_Ties___init__ ["self", "web"] (spInit K (He.ga K "Ties")) := by
  refine M.F_Ties___init__.ok sc_Ties___init__ (fun vs H Q E h => ?_) (fun cdv A outer s H vs Q E hr h => ⟨t_init K, ?_, pure_init M.c_Ties M.n_Ties_many M.n_Ties_to M.n_Ties_whole vs H Q E h⟩)
  · obtain ⟨x, dx, w0, n, ts, G, rfl, _⟩ := h
    rfl
  · exact pss_cons (ps_fld (pv 0) (pe_ix ix_seq (pv 1) pe_int (fun _ _ => rfl)) rfl)
      (pss_cons (ps_fld (pv 0) (pe_op op_rep (pe_lst (pa_cons pe_int pa_nil rfl)) (pe_ix ix_seq (pv 1) pe_int (fun _ _ => rfl))) rfl)
      (pss_cons (ps_for PassesOwn.leaving rfl (pi_any (pe_ix ix_seq (pv 1) pe_int (fun _ _ => rfl))) (pg_tup rfl (pgs_cons (pg_name (i := 2) sc_Ties___init__.nd rfl (by first | exact Or.inl rfl | exact Or.inr rfl)) (pgs_cons (pg_name (i := 3) sc_Ties___init__.nd rfl (by first | exact Or.inl rfl | exact Or.inr rfl)) pgs_nil)))
        (pss_cons (ps_augS (pe_fld (pv 0) rfl) (pv 2) get_listJ (pe_op op_shl pe_int (pv 3)) ip_or set_list) (pss_one (ps_augS (pe_fld (pv 0) rfl) (pv 3) get_listJ (pe_op op_shl pe_int (pv 2)) ip_or set_list))))
      (pss_one (ps_fld (pv 0) (pe_op op_sub (pe_op op_shl pe_int (pe_ix ix_seq (pv 1) pe_int (fun _ _ => rfl))) pe_int) rfl))))
theorem bd_init (M : Mod K mg) : Binds K M.fd_Ties___init__ ["self", "web"] [] := M.F_Ties___init__.bindsN fun _ _ _ _ _ _ us hl => match us, hl with | [_, _], _ => rfl
theorem dp_masks {K : PySem.W.Frag} {G : Hp} (n : Nat) (ts : List (Nat × Nat)) : DpAll K G (masks n ts) ((List.range n).map fun v => PyData.int (nb ts v : Int)) := by
  unfold masks
  induction List.range n with
  | nil => exact .nil
  | cons a r ih => exact .cons (.int _) ih
theorem mk_Ties_ {X : Cx} {es : List Expr} {e : Expr} {ta : TA} {wa : WA} {p pos : Pos} (M : Mod X.K X.mg) (hgd : X.A.guards = some []) (hr : Room 3 X.A) (ha : DA X (e :: es) ta wa) (hg : Gl X "Ties" := by rfl) (hdb : (("Ties" : Str) == ("__debug__" : Str)) = false := by decide)
    (he : starEach (e :: es) X.env = (false, eval e X.env) :: starEach es X.env := by rfl) (hpl : (backTo pos (starEach es X.env)).any (·.1) = false := by rfl) : DE X (.Call (.Name "Ties" p) (e :: es) [] pos) (tMake (He.ga X.K "Ties") (spInit X.K (He.ga X.K "Ties")) [] E0 ta) (wMake_Ties (He.ga X.K "Ties") wa) := by
  refine ⟨pe_make M.mk_Ties (ok_init (P := X.prog) (w := X.w) (base := X.base) M) hr hg M.g_Ties (bd_init M) .nil pass0 ha.pa hdb he hpl, fun ρ Q h O L σ H I QV q => ?_⟩
  refine ha.ev ρ _ h O L σ H I _ fun L1 vs H1 ss ρ1 g1 I1 a1 h1 => ?_
  intro x dx hx hdx ne
  split at h1
  · rename_i d
    obtain ⟨n, ts, rfl, ok, h1⟩ := h1
    cases a1 with
    | cons v0 vr =>
      cases vr
      have gx : less H1 (O ++ L1) x = none := by
        cases z : less H1 (O ++ L1) x with
        | none => rfl
        | some o => rw [(less_some z).2] at hx; cases hx
      have gd : less H1 (O ++ L1) dx = none := by
        cases z : less H1 (O ++ L1) dx with
        | none => rfl
        | some o => rw [(less_some z).2] at hdx; cases hdx
      have s2 : Same H1 (upd (upd H1 dx (.own x)) x (.ins (He.ga X.K "Ties") dx [])) := fun b o z => by
        rw [upd_ne (ne_of_none z hx), upd_ne (ne_of_none z hdx)]
        exact z
      refine ⟨x, dx, _, n, ts, less H1 (O ++ L1), rfl, upd_same, fun b o z => s2 b o (less_sub b o z), gx, v0, ok, fun H' l keep hl ml xl => ⟨rfl, ?_⟩⟩
      have s3 : Same H1 H' := fun b o z => keep b o (ne_of_none z hx) (s2 b o z)
      have lx : l ≠ x := fun z => by rw [z, upd_same] at hl; cases hl
      have hl1 : H1 l = none := by
        cases z : H1 l with
        | none => rfl
        | some o => rw [s2 l o z] at hl; cases hl
      have nx : x ∉ O ++ L1 := fun z => I1.tr x z hx
      have nl : l ∉ O ++ L1 := fun z => I1.tr l z hl1
      refine q L1 _ H' (.ob (He.ga X.K "Ties") (tiesF n ts)) ρ1 (g1.trans (Go.same s3)) ⟨I1.grow s3, ObD.at_ ⟨x, dx, tiesV n l, rfl, by rw [less_out nx]; exact xl, fun f d z => ?_, fun f z => ?_⟩⟩ h1
      · have ml' : less H' (O ++ L1) l = some (.lst (masks n ts)) := by rw [less_out nl]; exact ml
        unfold tiesF at z
        unfold tiesV
        simp only [List.lookup] at z ⊢
        split at z
        · cases z
          exact ⟨_, rfl, .int _⟩
        · split at z
          · cases z
            exact ⟨_, rfl, .lst (.of ml') (dp_masks n ts)⟩
          · split at z
            · cases z
              exact ⟨_, rfl, .int _⟩
            · cases z
      · unfold tiesF at z
        unfold tiesV
        simp only [List.lookup] at z ⊢
        split at z
        · cases z
        · split at z
          · cases z
          · split at z
            · cases z
            · rfl
  · exact h1.elim

theorem sc_first_form_of : FnScope N_first_form_of ["web"] (defScope s_first_form_of) := ⟨rfl, rfl, rfl, by decide +kernel, rfl, by decide +kernel, by decide +kernel⟩
theorem nd_first_form_of : N_first_form_of.Nodup := sc_first_form_of.nd
theorem d_first_form_of (M : Mod K mg) {f : Addr} (cdv : Value) (A : Around) (outer : List Env) (s : Shared) (H : Hp) (hgd : A.guards = some []) (hr : Room 4 (A.deeper (envOfC "first_form_of" (defScope s_first_form_of) s.heap.objs.size f cdv))) :
    ∃ t, DSs (cxOf CX0 P w K mg base N_first_form_of "first_form_of" (defScope s_first_form_of) f cdv A outer s H E0) (defBody s_first_form_of) t (w_first_form_of (He.ga K "Ties")) := by
  have hp := owns (P := P) (w := w) (K := K) (mg := mg) (base := base) (N := N_first_form_of) (qual := "first_form_of") (scope := defScope s_first_form_of) (f := f) (cd := cdv) (A := A) (outer := outer) (s := s) (H := H)
  exact ⟨_, dss_cons (ds_set (i := 1) nd_first_form_of rfl (by first | exact Or.inl rfl | exact Or.inr rfl) (mk_Ties_ M hgd (hr.mono (by decide)) (da_cons (de_var 0) (da_nil))))
    (dss_cons (DS.z 2 (ds_set (i := 2) nd_first_form_of rfl (by first | exact Or.inl rfl | exact Or.inr rfl) (de_lst (da_cons (de_tup (da_cons (de_tup (da_nil)) (da_cons (de_tup (da_nil)) (da_nil)))) (da_nil)))))
    (dss_cons (ds_for hp rfl (di_range1 rfl M.blt.range (da_cons (de_ix (de_var 0) (de_int) (fun _ _ => rfl)) (da_nil))) (dg_name (i := 3) (x := "place") nd_first_form_of rfl (by first | exact Or.inl rfl | exact Or.inr rfl)) (dss_cons (ds_set (i := 4) nd_first_form_of rfl (by first | exact Or.inl rfl | exact Or.inr rfl) (de_lst (da_nil)))
    (dss_cons (ds_for hp rfl (di_any (de_var 2)) (dg_tup rfl (dgs_cons (dg_name (i := 5) (x := "told") nd_first_form_of rfl (by first | exact Or.inl rfl | exact Or.inr rfl)) (dgs_cons (dg_name (i := 6) (x := "row") nd_first_form_of rfl (by first | exact Or.inl rfl | exact Or.inr rfl)) (dgs_nil)))) (dss_one (ds_for hp rfl (di_range1 rfl M.blt.range (da_cons (de_ix (de_var 0) (de_int) (fun _ _ => rfl)) (da_nil))) (dg_name (i := 7) (x := "thing") nd_first_form_of rfl (by first | exact Or.inl rfl | exact Or.inr rfl)) (dss_one (ds_if (dt_cmp op_notIn_seq lift_in (de_var 7) (de_var 6) rfl) (dss_cons (ds_set (i := 8) nd_first_form_of rfl (by first | exact Or.inl rfl | exact Or.inr rfl) (de_callTy call_tuple_of lift_tuple rfl M.blt.tuple boot_tuple (da_cons (de_lcF (own := [("one", 9)]) rfl nd_first_form_of (di_any (de_var 6)) (blkOk_by (by rfl)) (fun i0 => dg_name (i := 9) (x := "one") nd_first_form_of rfl (by first | exact Or.inl rfl | exact Or.inr rfl)) (fun i0 => dts_nil) (fun i0 => de_callTy call_int1 lift_int rfl M.blt.int boot_int (da_cons (c_m (ok_Ties_are_tied M) (bd_Ties_are_tied M) M.c_Ties M.m_Ties_are_tied hgd (hr.mono (by decide)) (de_var 1) (da_cons (de_var 7) (da_cons (de_var 9) (da_nil)))) (da_nil)))) (da_nil))))
    (dss_one (ds_expr (de_append 4 (de_tup (da_cons (de_op op_addA lift_add (de_var 5) (de_var 8)) (da_cons (de_op op_addA lift_add (de_var 6) (de_tup (da_cons (de_var 7) (da_nil)))) (da_nil)))))))) (dss_nil))))))
    (dss_cons (ds_set (i := 10) nd_first_form_of rfl (by first | exact Or.inl rfl | exact Or.inr rfl) (de_callB (cr_minD rfl hr.units) lift_best rfl M.blt.min boot_min (da_cons (de_lcF (own := [("told", 5), ("row", 6)]) rfl nd_first_form_of (di_any (de_var 4)) (blkOk_by (by rfl)) (fun i0 => dg_tup rfl (dgs_cons (dg_name (i := 5) (x := "told") nd_first_form_of rfl (by first | exact Or.inl rfl | exact Or.inr rfl)) (dgs_cons (dg_name (i := 6) (x := "row") nd_first_form_of rfl (by first | exact Or.inl rfl | exact Or.inr rfl)) (dgs_nil)))) (fun i0 => dts_nil) (fun i0 => de_var 5)) (da_nil))))
    (dss_one (DS.z 2 (ds_setLcF (i := 2) (own := [("told", 5), ("row", 6)]) rfl nd_first_form_of rfl rfl rfl (di_any (de_var 4)) (blkOk_by (by rfl)) (fun i0 => dg_tup rfl (dgs_cons (dg_name (i := 5) (x := "told") nd_first_form_of rfl (by first | exact Or.inl rfl | exact Or.inr rfl)) (dgs_cons (dg_name (i := 6) (x := "row") nd_first_form_of rfl (by first | exact Or.inl rfl | exact Or.inr rfl)) (dgs_nil)))) (fun i0 => dts_one (dt_cmp (op_eqA hr.units) lift_eq (de_var 5) (de_var 10) (nomark _))) (fun i0 => de_tup (da_cons (de_var 5) (da_cons (de_var 6) (da_nil)))))))))))
    (dss_one (ds_ret (de_ix (de_ix (de_var 2) (de_int) (fun _ _ => rfl)) (de_int) (fun _ _ => rfl))))))⟩
theorem ok_first_form_of (M : Mod K mg) : FnG P w K mg base 5 (He.ga K "first_form_of") M.fd_first_form_of ["web"] (spP K (S_first_form_of (He.ga K "Ties"))) :=
  okP M.F_first_form_of sc_first_form_of (hl_first_form_of (He.ga K "Ties")) fun cdv A outer s H hgd hr => let ⟨t, D⟩ := d_first_form_of M cdv A outer s H hgd hr
  ⟨t, _, D, vc_first_form_of (He.ga K "Ties")⟩
theorem bd_first_form_of (M : Mod K mg) : Binds K M.fd_first_form_of ["web"] [] := M.F_first_form_of.bindsN fun _ _ _ _ _ _ us hl => match us, hl with | [_], _ => rfl
theorem cal_first_form_of (M : Mod K mg) : Cal P w K mg base "first_form_of" 5 (He.ga K "first_form_of") M.fd_first_form_of ["web"] (spP K (S_first_form_of (He.ga K "Ties"))) := ⟨ok_first_form_of M, M.g_first_form_of, M.F_first_form_of.kp, bd_first_form_of M⟩
theorem sc_is_integer : FnScope N_is_integer ["thing"] (defScope s_is_integer) := ⟨rfl, rfl, rfl, by decide +kernel, rfl, by decide +kernel, by decide +kernel⟩
theorem nd_is_integer : N_is_integer.Nodup := sc_is_integer.nd
theorem d_is_integer (M : Mod K mg) {f : Addr} (cdv : Value) (A : Around) (outer : List Env) (s : Shared) (H : Hp) (hgd : A.guards = some []) (hr : Room 1 (A.deeper (envOfC "is_integer" (defScope s_is_integer) s.heap.objs.size f cdv))) :
    ∃ t, DSs (cxOf CX0 P w K mg base N_is_integer "is_integer" (defScope s_is_integer) f cdv A outer s H E0) (defBody s_is_integer) t (w_is_integer) := by
  have hp := owns (P := P) (w := w) (K := K) (mg := mg) (base := base) (N := N_is_integer) (qual := "is_integer") (scope := defScope s_is_integer) (f := f) (cd := cdv) (A := A) (outer := outer) (s := s) (H := H)
  exact ⟨_, dss_one (ds_ret (de_and (de_isi rfl M.blt.isinstance rfl M.blt.int boot_int (de_var 0)) (de_one (de_not (de_isi rfl M.blt.isinstance rfl M.blt.bool boot_bool (de_var 0))))))⟩
theorem ok_is_integer (M : Mod K mg) : FnG P w K mg base 2 (He.ga K "is_integer") M.fd_is_integer ["thing"] (spP K (S_is_integer)) :=
  okP M.F_is_integer sc_is_integer (hl_is_integer) fun cdv A outer s H hgd hr => let ⟨t, D⟩ := d_is_integer M cdv A outer s H hgd hr
  ⟨t, _, D, vc_is_integer⟩
theorem bd_is_integer (M : Mod K mg) : Binds K M.fd_is_integer ["thing"] [] := M.F_is_integer.bindsN fun _ _ _ _ _ _ us hl => match us, hl with | [_], _ => rfl
theorem cal_is_integer (M : Mod K mg) : Cal P w K mg base "is_integer" 2 (He.ga K "is_integer") M.fd_is_integer ["thing"] (spP K (S_is_integer)) := ⟨ok_is_integer M, M.g_is_integer, M.F_is_integer.kp, bd_is_integer M⟩
theorem sc_is_within : FnScope N_is_within ["thing", "least", "most"] (defScope s_is_within) := ⟨rfl, rfl, rfl, by decide +kernel, rfl, by decide +kernel, by decide +kernel⟩
theorem nd_is_within : N_is_within.Nodup := sc_is_within.nd
theorem d_is_within (M : Mod K mg) {f : Addr} (cdv : Value) (A : Around) (outer : List Env) (s : Shared) (H : Hp) (hgd : A.guards = some []) (hr : Room 2 (A.deeper (envOfC "is_within" (defScope s_is_within) s.heap.objs.size f cdv))) :
    ∃ t, DSs (cxOf CX0 P w K mg base N_is_within "is_within" (defScope s_is_within) f cdv A outer s H E0) (defBody s_is_within) t (w_is_within) := by
  have hp := owns (P := P) (w := w) (K := K) (mg := mg) (base := base) (N := N_is_within) (qual := "is_within") (scope := defScope s_is_within) (f := f) (cd := cdv) (A := A) (outer := outer) (s := s) (H := H)
  exact ⟨_, dss_one (ds_ret (de_and (c_p (cal_is_integer M) hgd (hr.mono (by decide)) (da_cons (de_var 0) (da_nil))) (de_one (de_chain op_le lift_B op_le lift_B (de_var 1) (de_var 0) (de_var 2)))))⟩
theorem ok_is_within (M : Mod K mg) : FnG P w K mg base 3 (He.ga K "is_within") M.fd_is_within ["thing", "least", "most"] (spP K (S_is_within)) :=
  okP M.F_is_within sc_is_within (hl_is_within) fun cdv A outer s H hgd hr => let ⟨t, D⟩ := d_is_within M cdv A outer s H hgd hr
  ⟨t, _, D, vc_is_within⟩
theorem bd_is_within (M : Mod K mg) : Binds K M.fd_is_within ["thing", "least", "most"] [] := M.F_is_within.bindsN fun _ _ _ _ _ _ us hl => match us, hl with | [_, _, _], _ => rfl
theorem cal_is_within (M : Mod K mg) : Cal P w K mg base "is_within" 3 (He.ga K "is_within") M.fd_is_within ["thing", "least", "most"] (spP K (S_is_within)) := ⟨ok_is_within M, M.g_is_within, M.F_is_within.kp, bd_is_within M⟩
theorem sc_is_row : FnScope N_is_row ["thing", "least", "most"] (defScope s_is_row) := ⟨rfl, rfl, rfl, by decide +kernel, rfl, by decide +kernel, by decide +kernel⟩
theorem nd_is_row : N_is_row.Nodup := sc_is_row.nd
theorem d_is_row (M : Mod K mg) {f : Addr} (cdv : Value) (A : Around) (outer : List Env) (s : Shared) (H : Hp) (hgd : A.guards = some []) (hr : Room 1 (A.deeper (envOfC "is_row" (defScope s_is_row) s.heap.objs.size f cdv))) :
    ∃ t, DSs (cxOf CX0 P w K mg base N_is_row "is_row" (defScope s_is_row) f cdv A outer s H E0) (defBody s_is_row) t (w_is_row) := by
  have hp := owns (P := P) (w := w) (K := K) (mg := mg) (base := base) (N := N_is_row) (qual := "is_row") (scope := defScope s_is_row) (f := f) (cd := cdv) (A := A) (outer := outer) (s := s) (H := H)
  exact ⟨_, dss_one (ds_ret (de_and (de_isi rfl M.blt.isinstance rfl M.blt.tuple boot_tuple (de_var 0)) (de_one (de_chain op_le lift_B op_le lift_B (de_var 1) (de_callB call_len lift_len rfl M.blt.len boot_len (da_cons (de_var 0) (da_nil))) (de_var 2)))))⟩
theorem ok_is_row (M : Mod K mg) : FnG P w K mg base 2 (He.ga K "is_row") M.fd_is_row ["thing", "least", "most"] (spP K (S_is_row)) :=
  okP M.F_is_row sc_is_row (hl_is_row) fun cdv A outer s H hgd hr => let ⟨t, D⟩ := d_is_row M cdv A outer s H hgd hr
  ⟨t, _, D, vc_is_row⟩
theorem bd_is_row (M : Mod K mg) : Binds K M.fd_is_row ["thing", "least", "most"] [] := M.F_is_row.bindsN fun _ _ _ _ _ _ us hl => match us, hl with | [_, _, _], _ => rfl
theorem cal_is_row (M : Mod K mg) : Cal P w K mg base "is_row" 2 (He.ga K "is_row") M.fd_is_row ["thing", "least", "most"] (spP K (S_is_row)) := ⟨ok_is_row M, M.g_is_row, M.F_is_row.kp, bd_is_row M⟩
theorem sc_is_rising : FnScope N_is_rising ["parts"] (defScope s_is_rising) := ⟨rfl, rfl, rfl, by decide +kernel, rfl, by decide +kernel, by decide +kernel⟩
theorem nd_is_rising : N_is_rising.Nodup := sc_is_rising.nd
theorem d_is_rising (M : Mod K mg) {f : Addr} (cdv : Value) (A : Around) (outer : List Env) (s : Shared) (H : Hp) (hgd : A.guards = some []) (hr : Room 1 (A.deeper (envOfC "is_rising" (defScope s_is_rising) s.heap.objs.size f cdv))) :
    ∃ t, DSs (cxOf CX0 P w K mg base N_is_rising "is_rising" (defScope s_is_rising) f cdv A outer s H E0) (defBody s_is_rising) t (w_is_rising) := by
  have hp := owns (P := P) (w := w) (K := K) (mg := mg) (base := base) (N := N_is_rising) (qual := "is_rising") (scope := defScope s_is_rising) (f := f) (cd := cdv) (A := A) (outer := outer) (s := s) (H := H)
  exact ⟨_, dss_one (ds_ret (de_callB (cr_all rfl) lift_all rfl M.blt.all boot_all (da_cons (de_lcF (own := [("one", 1), ("other", 2)]) rfl nd_is_rising (di_zip rfl M.blt.zip (da_cons (de_var 0) (da_cons (de_slice sl_any lift_sl (de_var 0) (do_some (de_int)) (do_none)) (da_nil)))) (blkOk_by (by rfl)) (fun i0 => dg_tup rfl (dgs_cons (dg_name (i := 1) (x := "one") nd_is_rising rfl (by first | exact Or.inl rfl | exact Or.inr rfl)) (dgs_cons (dg_name (i := 2) (x := "other") nd_is_rising rfl (by first | exact Or.inl rfl | exact Or.inr rfl)) (dgs_nil)))) (fun i0 => dts_nil) (fun i0 => de_cmp (op_ltA hr.units0) lift_lt (de_var 1) (de_var 2) (nomark _))) (da_nil))))⟩
theorem ok_is_rising (M : Mod K mg) : FnG P w K mg base 2 (He.ga K "is_rising") M.fd_is_rising ["parts"] (spP K (S_is_rising)) :=
  okP M.F_is_rising sc_is_rising (hl_is_rising) fun cdv A outer s H hgd hr => let ⟨t, D⟩ := d_is_rising M cdv A outer s H hgd hr
  ⟨t, _, D, vc_is_rising⟩
theorem bd_is_rising (M : Mod K mg) : Binds K M.fd_is_rising ["parts"] [] := M.F_is_rising.bindsN fun _ _ _ _ _ _ us hl => match us, hl with | [_], _ => rfl
theorem cal_is_rising (M : Mod K mg) : Cal P w K mg base "is_rising" 2 (He.ga K "is_rising") M.fd_is_rising ["parts"] (spP K (S_is_rising)) := ⟨ok_is_rising M, M.g_is_rising, M.F_is_rising.kp, bd_is_rising M⟩
theorem sc_is_tie : FnScope N_is_tie ["things", "thing"] (defScope s_is_tie) := ⟨rfl, rfl, rfl, by decide +kernel, rfl, by decide +kernel, by decide +kernel⟩
theorem nd_is_tie : N_is_tie.Nodup := sc_is_tie.nd
theorem d_is_tie (M : Mod K mg) {f : Addr} (cdv : Value) (A : Around) (outer : List Env) (s : Shared) (H : Hp) (hgd : A.guards = some []) (hr : Room 3 (A.deeper (envOfC "is_tie" (defScope s_is_tie) s.heap.objs.size f cdv))) :
    ∃ t, DSs (cxOf CX0 P w K mg base N_is_tie "is_tie" (defScope s_is_tie) f cdv A outer s H E0) (defBody s_is_tie) t (w_is_tie) := by
  have hp := owns (P := P) (w := w) (K := K) (mg := mg) (base := base) (N := N_is_tie) (qual := "is_tie") (scope := defScope s_is_tie) (f := f) (cd := cdv) (A := A) (outer := outer) (s := s) (H := H)
  exact ⟨_, dss_cons (ds_if (DW.dt (dw_or (dt_not (dt_val (c_p (cal_is_row M) hgd (hr.mono (by decide)) (da_cons (de_var 1) (da_cons (de_int) (da_cons (de_int) (da_nil))))))) (dw_or1 (dt_not (dt_val (de_callB (cr_all rfl) lift_all rfl M.blt.all boot_all (da_cons (de_lcF (own := [("one", 2)]) rfl nd_is_tie (di_any (de_var 1)) (blkOk_by (by rfl)) (fun i0 => dg_name (i := 2) (x := "one") nd_is_tie rfl (by first | exact Or.inl rfl | exact Or.inr rfl)) (fun i0 => dts_nil) (fun i0 => c_p (cal_is_within M) hgd (hr.mono (by decide)) (da_cons (de_var 2) (da_cons (de_int) (da_cons (de_op op_sub lift_I (de_var 0) (de_int)) (da_nil)))))) (da_nil)))))))) (dss_one (ds_ret (de_bl))) (dss_nil))
    (dss_one (ds_ret (de_cmp (op_ltA hr.units0) lift_lt (de_ix (de_var 1) (de_int) (fun _ _ => rfl)) (de_ix (de_var 1) (de_int) (fun _ _ => rfl)) (nomark _))))⟩
theorem ok_is_tie (M : Mod K mg) : FnG P w K mg base 4 (He.ga K "is_tie") M.fd_is_tie ["things", "thing"] (spP K (S_is_tie)) :=
  okP M.F_is_tie sc_is_tie (hl_is_tie) fun cdv A outer s H hgd hr => let ⟨t, D⟩ := d_is_tie M cdv A outer s H hgd hr
  ⟨t, _, D, vc_is_tie⟩
theorem bd_is_tie (M : Mod K mg) : Binds K M.fd_is_tie ["things", "thing"] [] := M.F_is_tie.bindsN fun _ _ _ _ _ _ us hl => match us, hl with | [_, _], _ => rfl
theorem cal_is_tie (M : Mod K mg) : Cal P w K mg base "is_tie" 4 (He.ga K "is_tie") M.fd_is_tie ["things", "thing"] (spP K (S_is_tie)) := ⟨ok_is_tie M, M.g_is_tie, M.F_is_tie.kp, bd_is_tie M⟩
theorem sc_is_web_form : FnScope N_is_web_form ["thing"] (defScope s_is_web_form) := ⟨rfl, rfl, rfl, by decide +kernel, rfl, by decide +kernel, by decide +kernel⟩
theorem nd_is_web_form : N_is_web_form.Nodup := sc_is_web_form.nd
theorem d_is_web_form (M : Mod K mg) {f : Addr} (cdv : Value) (A : Around) (outer : List Env) (s : Shared) (H : Hp) (hgd : A.guards = some []) (hr : Room 4 (A.deeper (envOfC "is_web_form" (defScope s_is_web_form) s.heap.objs.size f cdv))) :
    ∃ t, DSs (cxOf CX0 P w K mg base N_is_web_form "is_web_form" (defScope s_is_web_form) f cdv A outer s H E0) (defBody s_is_web_form) t (w_is_web_form) := by
  have hp := owns (P := P) (w := w) (K := K) (mg := mg) (base := base) (N := N_is_web_form) (qual := "is_web_form") (scope := defScope s_is_web_form) (f := f) (cd := cdv) (A := A) (outer := outer) (s := s) (H := H)
  exact ⟨_, dss_cons (ds_if (DW.dt (dw_or (dt_not (dt_val (c_p (cal_is_row M) hgd (hr.mono (by decide)) (da_cons (de_var 0) (da_cons (de_int) (da_cons (de_int) (da_nil))))))) (dw_or (dt_not (dt_val (c_p (cal_is_within M) hgd (hr.mono (by decide)) (da_cons (de_ix (de_var 0) (de_int) (fun _ _ => rfl)) (da_cons (de_int) (da_cons (de_globI rfl M.g_MOST_THINGS) (da_nil))))))) (dw_or1 (dt_not (dt_val (de_isi rfl M.blt.isinstance rfl M.blt.tuple boot_tuple (de_ix (de_var 0) (de_int) (fun _ _ => rfl))))))))) (dss_one (ds_ret (de_bl))) (dss_nil))
    (dss_one (ds_ret (de_and (de_callB (cr_all rfl) lift_all rfl M.blt.all boot_all (da_cons (de_lcF (own := [("tie", 1)]) rfl nd_is_web_form (di_any (de_ix (de_var 0) (de_int) (fun _ _ => rfl))) (blkOk_by (by rfl)) (fun i0 => dg_name (i := 1) (x := "tie") nd_is_web_form rfl (by first | exact Or.inl rfl | exact Or.inr rfl)) (fun i0 => dts_nil) (fun i0 => c_p (cal_is_tie M) hgd (hr.mono (by decide)) (da_cons (de_ix (de_var 0) (de_int) (fun _ _ => rfl)) (da_cons (de_var 1) (da_nil))))) (da_nil))) (de_one (c_p (cal_is_rising M) hgd (hr.mono (by decide)) (da_cons (de_ix (de_var 0) (de_int) (fun _ _ => rfl)) (da_nil)))))))⟩
theorem ok_is_web_form (M : Mod K mg) : FnG P w K mg base 5 (He.ga K "is_web_form") M.fd_is_web_form ["thing"] (spP K (S_is_web_form)) :=
  okP M.F_is_web_form sc_is_web_form (hl_is_web_form) fun cdv A outer s H hgd hr => let ⟨t, D⟩ := d_is_web_form M cdv A outer s H hgd hr
  ⟨t, _, D, vc_is_web_form⟩
theorem bd_is_web_form (M : Mod K mg) : Binds K M.fd_is_web_form ["thing"] [] := M.F_is_web_form.bindsN fun _ _ _ _ _ _ us hl => match us, hl with | [_], _ => rfl
theorem cal_is_web_form (M : Mod K mg) : Cal P w K mg base "is_web_form" 5 (He.ga K "is_web_form") M.fd_is_web_form ["thing"] (spP K (S_is_web_form)) := ⟨ok_is_web_form M, M.g_is_web_form, M.F_is_web_form.kp, bd_is_web_form M⟩
theorem sc_need_web : FnScope N_need_web ["web"] (defScope s_need_web) := ⟨rfl, rfl, rfl, by decide +kernel, rfl, by decide +kernel, by decide +kernel⟩
theorem nd_need_web : N_need_web.Nodup := sc_need_web.nd
theorem d_need_web (M : Mod K mg) {f : Addr} (cdv : Value) (A : Around) (outer : List Env) (s : Shared) (H : Hp) (hgd : A.guards = some []) (hr : Room 5 (A.deeper (envOfC "need_web" (defScope s_need_web) s.heap.objs.size f cdv))) :
    ∃ t, DSs (cxOf CX0 P w K mg base N_need_web "need_web" (defScope s_need_web) f cdv A outer s H E0) (defBody s_need_web) t (w_need_web) := by
  have hp := owns (P := P) (w := w) (K := K) (mg := mg) (base := base) (N := N_need_web) (qual := "need_web") (scope := defScope s_need_web) (f := f) (cd := cdv) (A := A) (outer := outer) (s := s) (H := H)
  exact ⟨_, dss_one (ds_if (dt_not (dt_val (c_p (cal_is_web_form M) hgd (hr.mono (by decide)) (da_cons (de_var 0) (da_nil))))) (dss_one (ds_never)) (dss_nil))⟩
theorem ok_need_web (M : Mod K mg) : FnG P w K mg base 6 (He.ga K "need_web") M.fd_need_web ["web"] (spP K (S_need_web)) :=
  okP M.F_need_web sc_need_web (hl_need_web) fun cdv A outer s H hgd hr => let ⟨t, D⟩ := d_need_web M cdv A outer s H hgd hr
  ⟨t, _, D, vc_need_web⟩
theorem bd_need_web (M : Mod K mg) : Binds K M.fd_need_web ["web"] [] := M.F_need_web.bindsN fun _ _ _ _ _ _ us hl => match us, hl with | [_], _ => rfl
theorem cal_need_web (M : Mod K mg) : Cal P w K mg base "need_web" 6 (He.ga K "need_web") M.fd_need_web ["web"] (spP K (S_need_web)) := ⟨ok_need_web M, M.g_need_web, M.F_need_web.kp, bd_need_web M⟩
theorem sc_need_small : FnScope N_need_small ["web"] (defScope s_need_small) := ⟨rfl, rfl, rfl, by decide +kernel, rfl, by decide +kernel, by decide +kernel⟩
theorem nd_need_small : N_need_small.Nodup := sc_need_small.nd
theorem d_need_small (M : Mod K mg) {f : Addr} (cdv : Value) (A : Around) (outer : List Env) (s : Shared) (H : Hp) (hgd : A.guards = some []) (hr : Room 6 (A.deeper (envOfC "need_small" (defScope s_need_small) s.heap.objs.size f cdv))) :
    ∃ t, DSs (cxOf CX0 P w K mg base N_need_small "need_small" (defScope s_need_small) f cdv A outer s H E0) (defBody s_need_small) t (w_need_small) := by
  have hp := owns (P := P) (w := w) (K := K) (mg := mg) (base := base) (N := N_need_small) (qual := "need_small") (scope := defScope s_need_small) (f := f) (cd := cdv) (A := A) (outer := outer) (s := s) (H := H)
  exact ⟨_, dss_cons (ds_expr (c_p (cal_need_web M) hgd (hr.mono (by decide)) (da_cons (de_var 0) (da_nil))))
    (dss_one (ds_if (dt_cmp op_gt lift_B (de_ix (de_var 0) (de_int) (fun _ _ => rfl)) (de_globI rfl M.g_MOST_FORMED) (nomark _)) (dss_one (ds_never)) (dss_nil)))⟩
theorem ok_need_small (M : Mod K mg) : FnG P w K mg base 7 (He.ga K "need_small") M.fd_need_small ["web"] (spP K (S_need_small)) :=
  okP M.F_need_small sc_need_small (hl_need_small) fun cdv A outer s H hgd hr => let ⟨t, D⟩ := d_need_small M cdv A outer s H hgd hr
  ⟨t, _, D, vc_need_small⟩
theorem bd_need_small (M : Mod K mg) : Binds K M.fd_need_small ["web"] [] := M.F_need_small.bindsN fun _ _ _ _ _ _ us hl => match us, hl with | [_], _ => rfl
theorem cal_need_small (M : Mod K mg) : Cal P w K mg base "need_small" 7 (He.ga K "need_small") M.fd_need_small ["web"] (spP K (S_need_small)) := ⟨ok_need_small M, M.g_need_small, M.F_need_small.kp, bd_need_small M⟩
theorem sc_first_form : FnScope N_first_form ["web"] (defScope s_first_form) := ⟨rfl, rfl, rfl, by decide +kernel, rfl, by decide +kernel, by decide +kernel⟩
theorem nd_first_form : N_first_form.Nodup := sc_first_form.nd
theorem d_first_form (M : Mod K mg) {f : Addr} (cdv : Value) (A : Around) (outer : List Env) (s : Shared) (H : Hp) (hgd : A.guards = some []) (hr : Room 7 (A.deeper (envOfC "first_form" (defScope s_first_form) s.heap.objs.size f cdv))) :
    ∃ t, DSs (cxOf CX0 P w K mg base N_first_form "first_form" (defScope s_first_form) f cdv A outer s H E0) (defBody s_first_form) t (w_first_form (He.ga K "Ties")) := by
  have hp := owns (P := P) (w := w) (K := K) (mg := mg) (base := base) (N := N_first_form) (qual := "first_form") (scope := defScope s_first_form) (f := f) (cd := cdv) (A := A) (outer := outer) (s := s) (H := H)
  exact ⟨_, dss_cons (ds_expr (c_p (cal_need_small M) hgd (hr.mono (by decide)) (da_cons (de_var 0) (da_nil))))
    (dss_one (ds_ret (c_p (cal_renamed_web M) hgd (hr.mono (by decide)) (da_cons (de_var 0) (da_cons (c_p (cal_first_form_of M) hgd (hr.mono (by decide)) (da_cons (de_var 0) (da_nil))) (da_nil))))))⟩
theorem ok_first_form (M : Mod K mg) : FnG P w K mg base 8 (He.ga K "first_form") M.fd_first_form ["web"] (spP K (S_first_form (He.ga K "Ties"))) :=
  okP M.F_first_form sc_first_form (hl_first_form (He.ga K "Ties")) fun cdv A outer s H hgd hr => let ⟨t, D⟩ := d_first_form M cdv A outer s H hgd hr
  ⟨t, _, D, vc_first_form (He.ga K "Ties")⟩
theorem bd_first_form (M : Mod K mg) : Binds K M.fd_first_form ["web"] [] := M.F_first_form.bindsN fun _ _ _ _ _ _ us hl => match us, hl with | [_], _ => rfl
theorem cal_first_form (M : Mod K mg) : Cal P w K mg base "first_form" 8 (He.ga K "first_form") M.fd_first_form ["web"] (spP K (S_first_form (He.ga K "Ties"))) := ⟨ok_first_form M, M.g_first_form, M.F_first_form.kp, bd_first_form M⟩
theorem bk_first_form (M : Mod K mg) (s : Shared) (u : Value) : BindsTo s M.fd_first_form ⟨[], [("web", u)]⟩ [("web", u)] := bindsK1 M.F_first_form (fun _ _ _ _ _ _ _ => rfl) s u
theorem sc_is_order_of : FnScope N_is_order_of ["thing", "many"] (defScope s_is_order_of) := ⟨rfl, rfl, rfl, by decide +kernel, rfl, by decide +kernel, by decide +kernel⟩
theorem nd_is_order_of : N_is_order_of.Nodup := sc_is_order_of.nd
theorem d_is_order_of (M : Mod K mg) {f : Addr} (cdv : Value) (A : Around) (outer : List Env) (s : Shared) (H : Hp) (hgd : A.guards = some []) (hr : Room 3 (A.deeper (envOfC "is_order_of" (defScope s_is_order_of) s.heap.objs.size f cdv))) :
    ∃ t, DSs (cxOf CX0 P w K mg base N_is_order_of "is_order_of" (defScope s_is_order_of) f cdv A outer s H E0) (defBody s_is_order_of) t (w_is_order_of) := by
  have hp := owns (P := P) (w := w) (K := K) (mg := mg) (base := base) (N := N_is_order_of) (qual := "is_order_of") (scope := defScope s_is_order_of) (f := f) (cd := cdv) (A := A) (outer := outer) (s := s) (H := H)
  exact ⟨_, dss_cons (ds_if (DW.dt (dw_or (dt_not (dt_val (c_p (cal_is_row M) hgd (hr.mono (by decide)) (da_cons (de_var 0) (da_cons (de_var 1) (da_cons (de_var 1) (da_nil))))))) (dw_or1 (dt_not (dt_val (de_callB (cr_all rfl) lift_all rfl M.blt.all boot_all (da_cons (de_lcF (own := [("one", 2)]) rfl nd_is_order_of (di_any (de_var 0)) (blkOk_by (by rfl)) (fun i0 => dg_name (i := 2) (x := "one") nd_is_order_of rfl (by first | exact Or.inl rfl | exact Or.inr rfl)) (fun i0 => dts_nil) (fun i0 => c_p (cal_is_within M) hgd (hr.mono (by decide)) (da_cons (de_var 2) (da_cons (de_int) (da_cons (de_op op_sub lift_I (de_var 1) (de_int)) (da_nil)))))) (da_nil)))))))) (dss_one (ds_ret (de_bl))) (dss_nil))
    (dss_one (ds_ret (de_cmp (op_eqA hr.units) lift_eq (de_lenSetI rfl rfl M.blt.len rfl M.blt.set (de_var 0)) (de_var 1) (nomark _))))⟩
theorem ok_is_order_of (M : Mod K mg) : FnG P w K mg base 4 (He.ga K "is_order_of") M.fd_is_order_of ["thing", "many"] (spP K (S_is_order_of)) :=
  okP M.F_is_order_of sc_is_order_of (hl_is_order_of) fun cdv A outer s H hgd hr => let ⟨t, D⟩ := d_is_order_of M cdv A outer s H hgd hr
  ⟨t, _, D, vc_is_order_of⟩
theorem bd_is_order_of (M : Mod K mg) : Binds K M.fd_is_order_of ["thing", "many"] [] := M.F_is_order_of.bindsN fun _ _ _ _ _ _ us hl => match us, hl with | [_, _], _ => rfl
theorem cal_is_order_of (M : Mod K mg) : Cal P w K mg base "is_order_of" 4 (He.ga K "is_order_of") M.fd_is_order_of ["thing", "many"] (spP K (S_is_order_of)) := ⟨ok_is_order_of M, M.g_is_order_of, M.F_is_order_of.kp, bd_is_order_of M⟩
theorem sc_need_order : FnScope N_need_order ["many", "order"] (defScope s_need_order) := ⟨rfl, rfl, rfl, by decide +kernel, rfl, by decide +kernel, by decide +kernel⟩
theorem nd_need_order : N_need_order.Nodup := sc_need_order.nd
theorem d_need_order (M : Mod K mg) {f : Addr} (cdv : Value) (A : Around) (outer : List Env) (s : Shared) (H : Hp) (hgd : A.guards = some []) (hr : Room 4 (A.deeper (envOfC "need_order" (defScope s_need_order) s.heap.objs.size f cdv))) :
    ∃ t, DSs (cxOf CX0 P w K mg base N_need_order "need_order" (defScope s_need_order) f cdv A outer s H E0) (defBody s_need_order) t (w_need_order) := by
  have hp := owns (P := P) (w := w) (K := K) (mg := mg) (base := base) (N := N_need_order) (qual := "need_order") (scope := defScope s_need_order) (f := f) (cd := cdv) (A := A) (outer := outer) (s := s) (H := H)
  exact ⟨_, dss_one (ds_if (dt_not (dt_val (c_p (cal_is_order_of M) hgd (hr.mono (by decide)) (da_cons (de_var 1) (da_cons (de_var 0) (da_nil)))))) (dss_one (ds_never)) (dss_nil))⟩
theorem ok_need_order (M : Mod K mg) : FnG P w K mg base 5 (He.ga K "need_order") M.fd_need_order ["many", "order"] (spP K (S_need_order)) :=
  okP M.F_need_order sc_need_order (hl_need_order) fun cdv A outer s H hgd hr => let ⟨t, D⟩ := d_need_order M cdv A outer s H hgd hr
  ⟨t, _, D, vc_need_order⟩
theorem bd_need_order (M : Mod K mg) : Binds K M.fd_need_order ["many", "order"] [] := M.F_need_order.bindsN fun _ _ _ _ _ _ us hl => match us, hl with | [_, _], _ => rfl
theorem cal_need_order (M : Mod K mg) : Cal P w K mg base "need_order" 5 (He.ga K "need_order") M.fd_need_order ["many", "order"] (spP K (S_need_order)) := ⟨ok_need_order M, M.g_need_order, M.F_need_order.kp, bd_need_order M⟩
theorem sc_renamed : FnScope N_renamed ["web", "order"] (defScope s_renamed) := ⟨rfl, rfl, rfl, by decide +kernel, rfl, by decide +kernel, by decide +kernel⟩
theorem nd_renamed : N_renamed.Nodup := sc_renamed.nd
theorem d_renamed (M : Mod K mg) {f : Addr} (cdv : Value) (A : Around) (outer : List Env) (s : Shared) (H : Hp) (hgd : A.guards = some []) (hr : Room 6 (A.deeper (envOfC "renamed" (defScope s_renamed) s.heap.objs.size f cdv))) :
    ∃ t, DSs (cxOf CX0 P w K mg base N_renamed "renamed" (defScope s_renamed) f cdv A outer s H E0) (defBody s_renamed) t (w_renamed) := by
  have hp := owns (P := P) (w := w) (K := K) (mg := mg) (base := base) (N := N_renamed) (qual := "renamed") (scope := defScope s_renamed) (f := f) (cd := cdv) (A := A) (outer := outer) (s := s) (H := H)
  exact ⟨_, dss_cons (ds_expr (c_p (cal_need_web M) hgd (hr.mono (by decide)) (da_cons (de_var 0) (da_nil))))
    (dss_cons (ds_expr (c_p (cal_need_order M) hgd (hr.mono (by decide)) (da_cons (de_ix (de_var 0) (de_int) (fun _ _ => rfl)) (da_cons (de_var 1) (da_nil)))))
    (dss_one (ds_ret (c_p (cal_renamed_web M) hgd (hr.mono (by decide)) (da_cons (de_var 0) (da_cons (de_var 1) (da_nil)))))))⟩
theorem ok_renamed (M : Mod K mg) : FnG P w K mg base 7 (He.ga K "renamed") M.fd_renamed ["web", "order"] (spP K (S_renamed)) :=
  okP M.F_renamed sc_renamed (hl_renamed) fun cdv A outer s H hgd hr => let ⟨t, D⟩ := d_renamed M cdv A outer s H hgd hr
  ⟨t, _, D, vc_renamed⟩
theorem bd_renamed (M : Mod K mg) : Binds K M.fd_renamed ["web", "order"] [] := M.F_renamed.bindsN fun _ _ _ _ _ _ us hl => match us, hl with | [_, _], _ => rfl
theorem cal_renamed (M : Mod K mg) : Cal P w K mg base "renamed" 7 (He.ga K "renamed") M.fd_renamed ["web", "order"] (spP K (S_renamed)) := ⟨ok_renamed M, M.g_renamed, M.F_renamed.kp, bd_renamed M⟩
theorem sc_things_of : FnScope N_things_of ["lot"] (defScope s_things_of) := ⟨rfl, rfl, rfl, by decide +kernel, rfl, by decide +kernel, by decide +kernel⟩
theorem nd_things_of : N_things_of.Nodup := sc_things_of.nd
theorem d_things_of (M : Mod K mg) {f : Addr} (cdv : Value) (A : Around) (outer : List Env) (s : Shared) (H : Hp) (hgd : A.guards = some []) (hr : Room 1 (A.deeper (envOfC "things_of" (defScope s_things_of) s.heap.objs.size f cdv))) :
    ∃ t, DSs (cxOf CX0 P w K mg base N_things_of "things_of" (defScope s_things_of) f cdv A outer s H E0) (defBody s_things_of) t (w_things_of) := by
  have hp := owns (P := P) (w := w) (K := K) (mg := mg) (base := base) (N := N_things_of) (qual := "things_of") (scope := defScope s_things_of) (f := f) (cd := cdv) (A := A) (outer := outer) (s := s) (H := H)
  exact ⟨_, dss_cons (ds_par (i := 1) (j := 2) rfl nd_things_of rfl rfl (by decide) rfl rfl (dr_cons (de_lst (da_nil)) (dr_cons (de_int) (dr_nil))) rfl)
    (dss_cons (ds_while hp (dt_cmp op_gt lift_B (de_op op_shr lift_IC (de_var 0) (de_var 2)) (de_int) (nomark _)) (dss_cons (ds_if (dt_cmp (op_eqA hr.units) lift_eq (de_op op_and lift_I (de_op op_shr lift_IC (de_var 0) (de_var 2)) (de_int)) (de_int) (nomark _)) (dss_one (ds_expr (de_append 1 (de_var 2)))) (dss_nil))
    (dss_one (ds_aug (i := 2) nd_things_of rfl (by first | exact Or.inl rfl | exact Or.inr rfl) iop_add lift_I (de_int)))))
    (dss_one (ds_ret (de_var 1))))⟩
theorem ok_things_of (M : Mod K mg) : FnG P w K mg base 2 (He.ga K "things_of") M.fd_things_of ["lot"] (spP K (S_things_of)) :=
  okP M.F_things_of sc_things_of (hl_things_of) fun cdv A outer s H hgd hr => let ⟨t, D⟩ := d_things_of M cdv A outer s H hgd hr
  ⟨t, _, D, vc_things_of⟩
theorem bd_things_of (M : Mod K mg) : Binds K M.fd_things_of ["lot"] [] := M.F_things_of.bindsN fun _ _ _ _ _ _ us hl => match us, hl with | [_], _ => rfl
theorem cal_things_of (M : Mod K mg) : Cal P w K mg base "things_of" 2 (He.ga K "things_of") M.fd_things_of ["lot"] (spP K (S_things_of)) := ⟨ok_things_of M, M.g_things_of, M.F_things_of.kp, bd_things_of M⟩
theorem sc_lot_of : FnScope N_lot_of ["lot"] (defScope s_lot_of) := ⟨rfl, rfl, rfl, by decide +kernel, rfl, by decide +kernel, by decide +kernel⟩
theorem nd_lot_of : N_lot_of.Nodup := sc_lot_of.nd
theorem d_lot_of (M : Mod K mg) {f : Addr} (cdv : Value) (A : Around) (outer : List Env) (s : Shared) (H : Hp) (hgd : A.guards = some []) (hr : Room 2 (A.deeper (envOfC "lot_of" (defScope s_lot_of) s.heap.objs.size f cdv))) :
    ∃ t, DSs (cxOf CX0 P w K mg base N_lot_of "lot_of" (defScope s_lot_of) f cdv A outer s H E0) (defBody s_lot_of) t (w_lot_of) := by
  have hp := owns (P := P) (w := w) (K := K) (mg := mg) (base := base) (N := N_lot_of) (qual := "lot_of") (scope := defScope s_lot_of) (f := f) (cd := cdv) (A := A) (outer := outer) (s := s) (H := H)
  exact ⟨_, dss_one (ds_ret (de_callTy call_tuple_of lift_tuple rfl M.blt.tuple boot_tuple (da_cons (c_p (cal_things_of M) hgd (hr.mono (by decide)) (da_cons (de_var 0) (da_nil))) (da_nil))))⟩
theorem ok_lot_of (M : Mod K mg) : FnG P w K mg base 3 (He.ga K "lot_of") M.fd_lot_of ["lot"] (spP K (S_lot_of)) :=
  okP M.F_lot_of sc_lot_of (hl_lot_of) fun cdv A outer s H hgd hr => let ⟨t, D⟩ := d_lot_of M cdv A outer s H hgd hr
  ⟨t, _, D, vc_lot_of⟩
theorem bd_lot_of (M : Mod K mg) : Binds K M.fd_lot_of ["lot"] [] := M.F_lot_of.bindsN fun _ _ _ _ _ _ us hl => match us, hl with | [_], _ => rfl
theorem cal_lot_of (M : Mod K mg) : Cal P w K mg base "lot_of" 3 (He.ga K "lot_of") M.fd_lot_of ["lot"] (spP K (S_lot_of)) := ⟨ok_lot_of M, M.g_lot_of, M.F_lot_of.kp, bd_lot_of M⟩
theorem sc_things_tied : FnScope N_things_tied ["ties", "thing"] (defScope s_things_tied) := ⟨rfl, rfl, rfl, by decide +kernel, rfl, by decide +kernel, by decide +kernel⟩
theorem nd_things_tied : N_things_tied.Nodup := sc_things_tied.nd
theorem d_things_tied (M : Mod K mg) {f : Addr} (cdv : Value) (A : Around) (outer : List Env) (s : Shared) (H : Hp) (hgd : A.guards = some []) (hr : Room 3 (A.deeper (envOfC "things_tied" (defScope s_things_tied) s.heap.objs.size f cdv))) :
    ∃ t, DSs (cxOf CX0 P w K mg base N_things_tied "things_tied" (defScope s_things_tied) f cdv A outer s H E0) (defBody s_things_tied) t (w_things_tied (He.ga K "Ties")) := by
  have hp := owns (P := P) (w := w) (K := K) (mg := mg) (base := base) (N := N_things_tied) (qual := "things_tied") (scope := defScope s_things_tied) (f := f) (cd := cdv) (A := A) (outer := outer) (s := s) (H := H)
  exact ⟨_, dss_one (ds_ret (c_p (cal_lot_of M) hgd (hr.mono (by decide)) (da_cons (de_ix (de_fld (de_var 0) M.c_Ties M.n_Ties_to) (de_var 1) (fun _ _ => rfl)) (da_nil))))⟩
theorem ok_things_tied (M : Mod K mg) : FnG P w K mg base 4 (He.ga K "things_tied") M.fd_things_tied ["ties", "thing"] (spP K (S_things_tied (He.ga K "Ties"))) :=
  okP M.F_things_tied sc_things_tied (hl_things_tied (He.ga K "Ties")) fun cdv A outer s H hgd hr => let ⟨t, D⟩ := d_things_tied M cdv A outer s H hgd hr
  ⟨t, _, D, vc_things_tied (He.ga K "Ties")⟩
theorem bd_things_tied (M : Mod K mg) : Binds K M.fd_things_tied ["ties", "thing"] [] := M.F_things_tied.bindsN fun _ _ _ _ _ _ us hl => match us, hl with | [_, _], _ => rfl
theorem cal_things_tied (M : Mod K mg) : Cal P w K mg base "things_tied" 4 (He.ga K "things_tied") M.fd_things_tied ["ties", "thing"] (spP K (S_things_tied (He.ga K "Ties"))) := ⟨ok_things_tied M, M.g_things_tied, M.F_things_tied.kp, bd_things_tied M⟩
theorem sc_Likeness_fits : FnScope N_Likeness_fits ["self", "row", "thing"] (defScope s_Likeness_fits) := ⟨rfl, rfl, rfl, by decide +kernel, rfl, by decide +kernel, by decide +kernel⟩
theorem nd_Likeness_fits : N_Likeness_fits.Nodup := sc_Likeness_fits.nd
theorem d_Likeness_fits (M : Mod K mg) {f : Addr} (cdv : Value) (A : Around) (outer : List Env) (s : Shared) (H : Hp) (hgd : A.guards = some []) (hr : Room 4 (A.deeper (envOfC "Likeness.fits" (defScope s_Likeness_fits) s.heap.objs.size f cdv))) :
    ∃ t, DSs (cxOf CX0 P w K mg base N_Likeness_fits "Likeness.fits" (defScope s_Likeness_fits) f cdv A outer s H E0) (defBody s_Likeness_fits) t (w_Likeness_fits (He.ga K "Likeness") (He.ga K "Ties")) := by
  have hp := owns (P := P) (w := w) (K := K) (mg := mg) (base := base) (N := N_Likeness_fits) (qual := "Likeness.fits") (scope := defScope s_Likeness_fits) (f := f) (cd := cdv) (A := A) (outer := outer) (s := s) (H := H)
  exact ⟨_, dss_cons (ds_set (i := 3) nd_Likeness_fits rfl (by first | exact Or.inl rfl | exact Or.inr rfl) (de_callB call_len lift_len rfl M.blt.len boot_len (da_cons (de_var 1) (da_nil))))
    (dss_cons (ds_if (DW.dt (dw_or (dt_cmp op_in_seq lift_in (de_var 2) (de_var 1) rfl) (dw_or1 (dt_cmp (op_neA hr.units) lift_ne (de_callB call_len lift_len rfl M.blt.len boot_len (da_cons (c_p (cal_things_tied M) hgd (hr.mono (by decide)) (da_cons (de_fld (de_var 0) M.c_Likeness M.n_Likeness_ties) (da_cons (de_var 2) (da_nil)))) (da_nil))) (de_callB call_len lift_len rfl M.blt.len boot_len (da_cons (c_p (cal_things_tied M) hgd (hr.mono (by decide)) (da_cons (de_fld (de_var 0) M.c_Likeness M.n_Likeness_goal) (da_cons (de_var 3) (da_nil)))) (da_nil))) (nomark _))))) (dss_one (ds_ret (de_bl))) (dss_nil))
    (dss_one (ds_ret (de_callB (cr_all rfl) lift_all rfl M.blt.all boot_all (da_cons (de_lcF (own := [("at", 4), ("one", 5)]) rfl nd_Likeness_fits (di_enumX rfl M.blt.enumerate (da_cons (de_var 1) (da_nil))) (blkOk_by (by rfl)) (fun i0 => dg_tup rfl (dgs_cons (dg_name (i := 4) (x := "at") nd_Likeness_fits rfl (by first | exact Or.inl rfl | exact Or.inr rfl)) (dgs_cons (dg_name (i := 5) (x := "one") nd_Likeness_fits rfl (by first | exact Or.inl rfl | exact Or.inr rfl)) (dgs_nil)))) (fun i0 => dts_nil) (fun i0 => de_cmp (op_eqA hr.units) lift_eq (c_m (ok_Ties_are_tied M) (bd_Ties_are_tied M) M.c_Ties M.m_Ties_are_tied hgd (hr.mono (by decide)) (de_fld (de_var 0) M.c_Likeness M.n_Likeness_ties) (da_cons (de_var 5) (da_cons (de_var 2) (da_nil)))) (c_m (ok_Ties_are_tied M) (bd_Ties_are_tied M) M.c_Ties M.m_Ties_are_tied hgd (hr.mono (by decide)) (de_fld (de_var 0) M.c_Likeness M.n_Likeness_goal) (da_cons (de_var 4) (da_cons (de_var 3) (da_nil)))) (nomark _))) (da_nil))))))⟩
theorem ok_Likeness_fits (M : Mod K mg) : FnG P w K mg base 5 (He.ma K (He.ga K "Likeness") "fits") M.fd_Likeness_fits ["self", "row", "thing"] (spP K (S_Likeness_fits (He.ga K "Likeness") (He.ga K "Ties"))) :=
  okP M.F_Likeness_fits sc_Likeness_fits (hl_Likeness_fits (He.ga K "Likeness") (He.ga K "Ties")) fun cdv A outer s H hgd hr => let ⟨t, D⟩ := d_Likeness_fits M cdv A outer s H hgd hr
  ⟨t, _, D, vc_Likeness_fits (He.ga K "Likeness") (He.ga K "Ties")⟩
theorem bd_Likeness_fits (M : Mod K mg) : Binds K M.fd_Likeness_fits ["self", "row", "thing"] [] := M.F_Likeness_fits.bindsN fun _ _ _ _ _ _ us hl => match us, hl with | [_, _, _], _ => rfl
theorem sc_Likeness_first : FnScope N_Likeness_first ["self"] (defScope s_Likeness_first) := ⟨rfl, rfl, rfl, by decide +kernel, rfl, by decide +kernel, by decide +kernel⟩
theorem nd_Likeness_first : N_Likeness_first.Nodup := sc_Likeness_first.nd
theorem d_Likeness_first (M : Mod K mg) {f : Addr} (cdv : Value) (A : Around) (outer : List Env) (s : Shared) (H : Hp) (hgd : A.guards = some []) (hr : Room 5 (A.deeper (envOfC "Likeness.first" (defScope s_Likeness_first) s.heap.objs.size f cdv))) :
    ∃ t, DSs (cxOf CX0 P w K mg base N_Likeness_first "Likeness.first" (defScope s_Likeness_first) f cdv A outer s H E0) (defBody s_Likeness_first) t (w_Likeness_first (He.ga K "Likeness") (He.ga K "Ties")) := by
  have hp := owns (P := P) (w := w) (K := K) (mg := mg) (base := base) (N := N_Likeness_first) (qual := "Likeness.first") (scope := defScope s_Likeness_first) (f := f) (cd := cdv) (A := A) (outer := outer) (s := s) (H := H)
  exact ⟨_, dss_cons (ds_set (i := 1) nd_Likeness_first rfl (by first | exact Or.inl rfl | exact Or.inr rfl) (de_fld (de_fld (de_var 0) M.c_Likeness M.n_Likeness_ties) M.c_Ties M.n_Ties_many))
    (dss_cons (ds_if (dt_cmp (op_neA hr.units) lift_ne (de_var 1) (de_fld (de_fld (de_var 0) M.c_Likeness M.n_Likeness_goal) M.c_Ties M.n_Ties_many) (nomark _)) (dss_one (ds_ret (de_non))) (dss_nil))
    (dss_cons (DS.z 2 (ds_set (i := 2) nd_Likeness_first rfl (by first | exact Or.inl rfl | exact Or.inr rfl) (de_lst (da_cons (de_tup (da_nil)) (da_nil)))))
    (dss_cons (ds_for hp rfl (di_range1 rfl M.blt.range (da_cons (de_var 1) (da_nil))) (dg_name (i := 3) (x := "place") nd_Likeness_first rfl (by first | exact Or.inl rfl | exact Or.inr rfl)) (dss_cons (ds_set (i := 4) nd_Likeness_first rfl (by first | exact Or.inl rfl | exact Or.inr rfl) (de_lst (da_nil)))
    (dss_cons (ds_for hp rfl (di_any (de_var 2)) (dg_name (i := 5) (x := "row") nd_Likeness_first rfl (by first | exact Or.inl rfl | exact Or.inr rfl)) (dss_one (ds_expr (de_extA 4 (de_lcF (own := [("thing", 6)]) rfl nd_Likeness_first (di_range1 rfl M.blt.range (da_cons (de_var 1) (da_nil))) (blkOk_by (by rfl)) (fun i0 => dg_name (i := 6) (x := "thing") nd_Likeness_first rfl (by first | exact Or.inl rfl | exact Or.inr rfl)) (fun i0 => dts_one (dt_val (c_m (ok_Likeness_fits M) (bd_Likeness_fits M) M.c_Likeness M.m_Likeness_fits hgd (hr.mono (by decide)) (de_var 0) (da_cons (de_var 5) (da_cons (de_var 6) (da_nil)))))) (fun i0 => de_op op_addA lift_add (de_var 5) (de_tup (da_cons (de_var 6) (da_nil)))))))))
    (dss_one (ds_set (i := 2) nd_Likeness_first rfl (by first | exact Or.inl rfl | exact Or.inr rfl) (de_var 4))))))
    (dss_one (ds_ret (de_ifExp (dt_cmp (op_neA hr.units) lift_ne (de_var 2) (de_lst (da_nil)) (nomark _)) (de_ix (de_var 2) (de_int) (fun _ _ => rfl)) (de_non)))))))⟩
theorem ok_Likeness_first (M : Mod K mg) : FnG P w K mg base 6 (He.ma K (He.ga K "Likeness") "first") M.fd_Likeness_first ["self"] (spP K (S_Likeness_first (He.ga K "Likeness") (He.ga K "Ties"))) :=
  okP M.F_Likeness_first sc_Likeness_first (hl_Likeness_first (He.ga K "Likeness") (He.ga K "Ties")) fun cdv A outer s H hgd hr => let ⟨t, D⟩ := d_Likeness_first M cdv A outer s H hgd hr
  ⟨t, _, D, vc_Likeness_first (He.ga K "Likeness") (He.ga K "Ties")⟩
theorem bd_Likeness_first (M : Mod K mg) : Binds K M.fd_Likeness_first ["self"] [] := M.F_Likeness_first.bindsN fun _ _ _ _ _ _ us hl => match us, hl with | [_], _ => rfl
theorem sc_Likeness___init__ : FnScope ["self", "web", "other"] ["self", "web", "other"] (defScope s_Likeness___init__) := ⟨rfl, rfl, rfl, by decide +kernel, rfl, by decide +kernel, by decide +kernel⟩
theorem ok_initL (M : Mod K mg) : FnOk P w K mg base CX0 4 (He.ma K (He.ga K "Likeness") "__init__") M.fd_Likeness___init__ ["self", "web", "other"] (spInitL K (He.ga K "Likeness") (He.ga K "Ties")) := by
  refine M.F_Likeness___init__.ok sc_Likeness___init__ (fun vs H Q E h => ?_) (fun cdv A outer s H vs Q E hr h => ⟨_, ?_, pure_initL M.c_Likeness M.n_Likeness_ties M.n_Likeness_goal (evA_cons (ev_mkTies (evA_cons ev_var evA_nil)) (evA_cons (ev_mkTies (evA_cons ev_var evA_nil)) evA_nil)) vs H Q E h⟩)
  · obtain ⟨x, dx, w0, w1, n, ts, m, us, G, rfl, _⟩ := h
    rfl
  · exact pss_one (ps_asg (pe_tup (pa_cons (pe_make M.mk_Ties (ok_init M) hr rfl M.g_Ties (bd_init M) .nil pass0 (pa_cons (pv 1) pa_nil rfl)) (pa_cons (pe_make M.mk_Ties (ok_init M) hr rfl M.g_Ties (bd_init M) .nil pass0 (pa_cons (pv 2) pa_nil rfl)) pa_nil rfl) rfl))
      (pg_tup rfl (pgs_cons (pg_fld (pv 0)) (pgs_cons (pg_fld (pv 0)) pgs_nil))))
theorem bd_initL (M : Mod K mg) : Binds K M.fd_Likeness___init__ ["self", "web", "other"] [] := M.F_Likeness___init__.bindsN fun _ _ _ _ _ _ us hl => match us, hl with | [_, _, _], _ => rfl
theorem mk_Likeness_ {X : Cx} {es : List Expr} {e : Expr} {ta : TA} {wa : WA} {p pos : Pos} (M : Mod X.K X.mg) (hgd : X.A.guards = some []) (hr : Room 5 X.A) (ha : DA X (e :: es) ta wa) (hg : Gl X "Likeness" := by rfl) (hdb : (("Likeness" : Str) == ("__debug__" : Str)) = false := by decide)
    (he : starEach (e :: es) X.env = (false, eval e X.env) :: starEach es X.env := by rfl) (hpl : (backTo pos (starEach es X.env)).any (·.1) = false := by rfl) : DE X (.Call (.Name "Likeness" p) (e :: es) [] pos) (tMake (He.ga X.K "Likeness") (spInitL X.K (He.ga X.K "Likeness") (He.ga X.K "Ties")) [] E0 ta) (wMake_Likeness (He.ga X.K "Likeness") (He.ga X.K "Ties") wa) :=
  ⟨pe_make M.mk_Likeness (ok_initL (P := X.prog) (w := X.w) (base := X.base) M) hr hg M.g_Likeness (bd_initL M) .nil pass0 ha.pa hdb he hpl, ev_mkLike ha.ev⟩

theorem sc_first_likeness : FnScope N_first_likeness ["web", "other"] (defScope s_first_likeness) := ⟨rfl, rfl, rfl, by decide +kernel, rfl, by decide +kernel, by decide +kernel⟩
theorem nd_first_likeness : N_first_likeness.Nodup := sc_first_likeness.nd
theorem d_first_likeness (M : Mod K mg) {f : Addr} (cdv : Value) (A : Around) (outer : List Env) (s : Shared) (H : Hp) (hgd : A.guards = some []) (hr : Room 7 (A.deeper (envOfC "first_likeness" (defScope s_first_likeness) s.heap.objs.size f cdv))) :
    ∃ t, DSs (cxOf CX0 P w K mg base N_first_likeness "first_likeness" (defScope s_first_likeness) f cdv A outer s H E0) (defBody s_first_likeness) t (w_first_likeness (He.ga K "Likeness") (He.ga K "Ties")) := by
  have hp := owns (P := P) (w := w) (K := K) (mg := mg) (base := base) (N := N_first_likeness) (qual := "first_likeness") (scope := defScope s_first_likeness) (f := f) (cd := cdv) (A := A) (outer := outer) (s := s) (H := H)
  exact ⟨_, dss_one (ds_ret (c_m0 (ok_Likeness_first M) (bd_Likeness_first M) M.c_Likeness M.m_Likeness_first hgd (hr.mono (by decide)) (mk_Likeness_ M hgd (hr.mono (by decide)) (da_cons (de_var 0) (da_cons (de_var 1) (da_nil))))))⟩
theorem ok_first_likeness (M : Mod K mg) : FnG P w K mg base 8 (He.ga K "first_likeness") M.fd_first_likeness ["web", "other"] (spP K (S_first_likeness (He.ga K "Likeness") (He.ga K "Ties"))) :=
  okP M.F_first_likeness sc_first_likeness (hl_first_likeness (He.ga K "Likeness") (He.ga K "Ties")) fun cdv A outer s H hgd hr => let ⟨t, D⟩ := d_first_likeness M cdv A outer s H hgd hr
  ⟨t, _, D, vc_first_likeness (He.ga K "Likeness") (He.ga K "Ties")⟩
theorem bd_first_likeness (M : Mod K mg) : Binds K M.fd_first_likeness ["web", "other"] [] := M.F_first_likeness.bindsN fun _ _ _ _ _ _ us hl => match us, hl with | [_, _], _ => rfl
theorem cal_first_likeness (M : Mod K mg) : Cal P w K mg base "first_likeness" 8 (He.ga K "first_likeness") M.fd_first_likeness ["web", "other"] (spP K (S_first_likeness (He.ga K "Likeness") (He.ga K "Ties"))) := ⟨ok_first_likeness M, M.g_first_likeness, M.F_first_likeness.kp, bd_first_likeness M⟩
theorem sc_alike_webs : FnScope N_alike_webs ["web", "other"] (defScope s_alike_webs) := ⟨rfl, rfl, rfl, by decide +kernel, rfl, by decide +kernel, by decide +kernel⟩
theorem nd_alike_webs : N_alike_webs.Nodup := sc_alike_webs.nd
theorem d_alike_webs (M : Mod K mg) {f : Addr} (cdv : Value) (A : Around) (outer : List Env) (s : Shared) (H : Hp) (hgd : A.guards = some []) (hr : Room 8 (A.deeper (envOfC "alike_webs" (defScope s_alike_webs) s.heap.objs.size f cdv))) :
    ∃ t, DSs (cxOf CX0 P w K mg base N_alike_webs "alike_webs" (defScope s_alike_webs) f cdv A outer s H E0) (defBody s_alike_webs) t (w_alike_webs (He.ga K "Likeness") (He.ga K "Ties")) := by
  have hp := owns (P := P) (w := w) (K := K) (mg := mg) (base := base) (N := N_alike_webs) (qual := "alike_webs") (scope := defScope s_alike_webs) (f := f) (cd := cdv) (A := A) (outer := outer) (s := s) (H := H)
  exact ⟨_, dss_cons (ds_expr (c_p (cal_need_web M) hgd (hr.mono (by decide)) (da_cons (de_var 0) (da_nil))))
    (dss_cons (ds_expr (c_p (cal_need_web M) hgd (hr.mono (by decide)) (da_cons (de_var 1) (da_nil))))
    (dss_cons (ds_if (dt_cmp op_gt lift_B (de_callB (cr_max rfl) lift_max rfl M.blt.max boot_max (da_cons (de_lst (da_cons (de_ix (de_var 0) (de_int) (fun _ _ => rfl)) (da_cons (de_ix (de_var 1) (de_int) (fun _ _ => rfl)) (da_nil)))) (da_nil))) (de_globI rfl M.g_MOST_ALIKE) (nomark _)) (dss_one (ds_never)) (dss_nil))
    (dss_one (ds_ret (c_p (cal_first_likeness M) hgd (hr.mono (by decide)) (da_cons (de_var 0) (da_cons (de_var 1) (da_nil))))))))⟩
theorem ok_alike_webs (M : Mod K mg) : FnG P w K mg base 9 (He.ga K "alike_webs") M.fd_alike_webs ["web", "other"] (spP K (S_alike_webs (He.ga K "Likeness") (He.ga K "Ties"))) :=
  okP M.F_alike_webs sc_alike_webs (hl_alike_webs (He.ga K "Likeness") (He.ga K "Ties")) fun cdv A outer s H hgd hr => let ⟨t, D⟩ := d_alike_webs M cdv A outer s H hgd hr
  ⟨t, _, D, vc_alike_webs (He.ga K "Likeness") (He.ga K "Ties")⟩
theorem bd_alike_webs (M : Mod K mg) : Binds K M.fd_alike_webs ["web", "other"] [] := M.F_alike_webs.bindsN fun _ _ _ _ _ _ us hl => match us, hl with | [_, _], _ => rfl
theorem cal_alike_webs (M : Mod K mg) : Cal P w K mg base "alike_webs" 9 (He.ga K "alike_webs") M.fd_alike_webs ["web", "other"] (spP K (S_alike_webs (He.ga K "Likeness") (He.ga K "Ties"))) := ⟨ok_alike_webs M, M.g_alike_webs, M.F_alike_webs.kp, bd_alike_webs M⟩
theorem sc__law_first : FnScope N__law_first ["web"] (defScope s__law_first) := ⟨rfl, rfl, rfl, by decide +kernel, rfl, by decide +kernel, by decide +kernel⟩
theorem nd__law_first : N__law_first.Nodup := sc__law_first.nd
theorem d__law_first (M : Mod K mg) {f : Addr} (cdv : Value) (A : Around) (outer : List Env) (s : Shared) (H : Hp) (hgd : A.guards = some []) (hr : Room 2 (A.deeper (envOfC "_law_first" (defScope s__law_first) s.heap.objs.size f cdv))) :
    ∃ t, DSs (cxOf CX0 P w K mg base N__law_first "_law_first" (defScope s__law_first) f cdv A outer s H E0) (defBody s__law_first) t (w__law_first) := by
  have hp := owns (P := P) (w := w) (K := K) (mg := mg) (base := base) (N := N__law_first) (qual := "_law_first") (scope := defScope s__law_first) (f := f) (cd := cdv) (A := A) (outer := outer) (s := s) (H := H)
  exact ⟨_, dss_cons (DS.z 1 (ds_par (i := 1) (j := 2) rfl nd__law_first rfl rfl (by decide) rfl rfl (dr_cons (de_lst (da_cons (de_tup (da_nil)) (da_nil))) (dr_cons (de_lst (da_nil)) (dr_nil))) rfl))
    (dss_cons (ds_for hp rfl (di_range1 rfl M.blt.range (da_cons (de_ix (de_var 0) (de_int) (fun _ _ => rfl)) (da_nil))) (dg_name (i := 3) (x := "at") nd__law_first rfl (by first | exact Or.inl rfl | exact Or.inr rfl)) (dss_cons (ds_set (i := 4) nd__law_first rfl (by first | exact Or.inl rfl | exact Or.inr rfl) (de_lst (da_nil)))
    (dss_cons (ds_for hp rfl (di_any (de_var 1)) (dg_name (i := 5) (x := "order") nd__law_first rfl (by first | exact Or.inl rfl | exact Or.inr rfl)) (dss_one (ds_expr (de_extA 4 (de_lcF (own := [("thing", 6)]) rfl nd__law_first (di_range1 rfl M.blt.range (da_cons (de_ix (de_var 0) (de_int) (fun _ _ => rfl)) (da_nil))) (blkOk_by (by rfl)) (fun i0 => dg_name (i := 6) (x := "thing") nd__law_first rfl (by first | exact Or.inl rfl | exact Or.inr rfl)) (fun i0 => dts_one (dt_cmp op_notIn_seq lift_in (de_var 6) (de_var 5) rfl)) (fun i0 => de_op op_addA lift_add (de_var 5) (de_tup (da_cons (de_var 6) (da_nil)))))))))
    (dss_cons (DS.z 7 (ds_setLcF (i := 7) (own := [("order", 5)]) rfl nd__law_first rfl rfl rfl (di_any (de_var 4)) (blkOk_by (by rfl)) (fun i0 => dg_name (i := 5) (x := "order") nd__law_first rfl (by first | exact Or.inl rfl | exact Or.inr rfl)) (fun i0 => dts_nil) (fun i0 => de_callTy call_tuple_of lift_tuple rfl M.blt.tuple boot_tuple (da_cons (de_lcF (own := [("one", 8)]) rfl nd__law_first (di_any (de_slice sl_any lift_sl (de_var 5) (do_none) (do_some (de_un un_neg lift_U (de_int))))) (blkOk_by (by rfl)) (fun i0 => dg_name (i := 8) (x := "one") nd__law_first rfl (by first | exact Or.inl rfl | exact Or.inr rfl)) (fun i0 => dts_nil) (fun i0 => de_callTy call_int1 lift_int rfl M.blt.int boot_int (da_cons (de_cmp (op_inX (units65 hr)) lift_inX (de_tup (da_cons (de_callB (call_min2 rfl) lift_min2 rfl M.blt.min boot_min (da_cons (de_var 8) (da_cons (de_ix (de_var 5) (de_un un_neg lift_U (de_int)) (fun _ _ => rfl)) (da_nil)))) (da_cons (de_callB (call_max2 rfl) lift_max2 rfl M.blt.max boot_max (da_cons (de_var 8) (da_cons (de_ix (de_var 5) (de_un un_neg lift_U (de_int)) (fun _ _ => rfl)) (da_nil)))) (da_nil)))) (de_ix (de_var 0) (de_int) (fun _ _ => rfl)) rfl) (da_nil)))) (da_nil)))))
    (dss_cons (ds_set (i := 9) nd__law_first rfl (by first | exact Or.inl rfl | exact Or.inr rfl) (de_callB (cr_minD rfl hr.units) lift_best rfl M.blt.min boot_min (da_cons (de_var 7) (da_nil))))
    (dss_cons (DS.z 1 (ds_setLcF (i := 1) (own := [("order", 5), ("column", 10)]) rfl nd__law_first rfl rfl rfl (di_zip rfl M.blt.zip (da_cons (de_var 4) (da_cons (de_var 7) (da_nil)))) (blkOk_by (by rfl)) (fun i0 => dg_tup rfl (dgs_cons (dg_name (i := 5) (x := "order") nd__law_first rfl (by first | exact Or.inl rfl | exact Or.inr rfl)) (dgs_cons (dg_name (i := 10) (x := "column") nd__law_first rfl (by first | exact Or.inl rfl | exact Or.inr rfl)) (dgs_nil)))) (fun i0 => dts_one (dt_cmp (op_eqA hr.units) lift_eq (de_var 10) (de_var 9) (nomark _))) (fun i0 => de_var 5)))
    (dss_one (ds_expr (de_extA 2 (de_lcF (own := [("one", 8)]) rfl nd__law_first (di_range1 rfl M.blt.range (da_cons (de_var 3) (da_nil))) (blkOk_by (by rfl)) (fun i0 => dg_name (i := 8) (x := "one") nd__law_first rfl (by first | exact Or.inl rfl | exact Or.inr rfl)) (fun i0 => dts_one (dt_cmp (op_eqA hr.units) lift_eq (de_ix (de_var 9) (de_var 8) (fun _ _ => rfl)) (de_int) (nomark _))) (fun i0 => de_tup (da_cons (de_var 8) (da_cons (de_var 3) (da_nil))))))))))))))
    (dss_one (ds_ret (c_p (cal__law_made M) hgd (hr.mono (by decide)) (da_cons (de_ix (de_var 0) (de_int) (fun _ _ => rfl)) (da_cons (de_var 2) (da_nil)))))))⟩
theorem ok__law_first (M : Mod K mg) : FnG P w K mg base 3 (He.ga K "_law_first") M.fd__law_first ["web"] (spP K (S__law_first)) :=
  okP M.F__law_first sc__law_first (hl__law_first) fun cdv A outer s H hgd hr => let ⟨t, D⟩ := d__law_first M cdv A outer s H hgd hr
  ⟨t, _, D, vc__law_first⟩
theorem bd__law_first (M : Mod K mg) : Binds K M.fd__law_first ["web"] [] := M.F__law_first.bindsN fun _ _ _ _ _ _ us hl => match us, hl with | [_], _ => rfl
theorem cal__law_first (M : Mod K mg) : Cal P w K mg base "_law_first" 3 (He.ga K "_law_first") M.fd__law_first ["web"] (spP K (S__law_first)) := ⟨ok__law_first M, M.g__law_first, M.F__law_first.kp, bd__law_first M⟩
theorem sc__law_right : FnScope N__law_right ["feed", "web"] (defScope s__law_right) := ⟨rfl, rfl, rfl, by decide +kernel, rfl, by decide +kernel, by decide +kernel⟩
theorem nd__law_right : N__law_right.Nodup := sc__law_right.nd
theorem d__law_right (M : Mod K mg) {f : Addr} (cdv : Value) (A : Around) (outer : List Env) (s : Shared) (H : Hp) (hgd : A.guards = some []) (hr : Room 9 (A.deeper (envOfC "_law_right" (defScope s__law_right) s.heap.objs.size f cdv))) :
    ∃ t, DSs (cxOf CX0 P w K mg base N__law_right "_law_right" (defScope s__law_right) f cdv A outer s H E0) (defBody s__law_right) t (w__law_right (He.ga K "Likeness") (He.ga K "Ties")) := by
  have hp := owns (P := P) (w := w) (K := K) (mg := mg) (base := base) (N := N__law_right) (qual := "_law_right") (scope := defScope s__law_right) (f := f) (cd := cdv) (A := A) (outer := outer) (s := s) (H := H)
  exact ⟨_, dss_cons (DS.z 3 (ds_par (i := 2) (j := 3) rfl nd__law_right rfl rfl (by decide) rfl rfl (dr_cons (de_callB (call_repr hgd hr.units) lift_repr rfl M.blt.repr boot_repr (da_cons (de_var 1) (da_nil))) (dr_cons (c_p (cal__law_first M) hgd (hr.mono (by decide)) (da_cons (de_var 1) (da_nil))) (dr_nil))) rfl))
    (dss_cons (DS.z 4 (ds_set (i := 4) nd__law_right rfl (by first | exact Or.inl rfl | exact Or.inr rfl) (c_p (cal_renamed M) hgd (hr.mono (by decide)) (da_cons (de_var 1) (da_cons (de_callTy call_tuple_of lift_tuple rfl M.blt.tuple boot_tuple (da_cons (c_f 0 (cal__law_mixed M) hgd (hr.mono (by decide)) (da_cons (de_listRg1 rfl rfl M.blt.list rfl M.blt.range (de_ix (de_var 1) (de_int) (fun _ _ => rfl))) (da_nil))) (da_nil))) (da_nil))))))
    (dss_cons (ds_if (dt_cmp (op_neA hr.units) lift_ne (de_callB (call_repr hgd hr.units) lift_repr rfl M.blt.repr boot_repr (da_cons (de_lst (da_cons (c_p (cal_first_form M) hgd (hr.mono (by decide)) (da_cons (de_var 1) (da_nil))) (da_cons (c_k1 (ok_first_form M) M.F_first_form.kp (bk_first_form M) M.g_first_form hgd (hr.mono (by decide)) (de_var 1)) (da_cons (c_p (cal_first_form M) hgd (hr.mono (by decide)) (da_cons (de_var 4) (da_nil))) (da_cons (c_p (cal_first_form M) hgd (hr.mono (by decide)) (da_cons (de_var 3) (da_nil))) (da_nil)))))) (da_nil))) (de_callB (call_repr hgd hr.units) lift_repr rfl M.blt.repr boot_repr (da_cons (de_rep (de_lst (da_cons (de_var 3) (da_nil))) (de_int)) (da_nil))) (nomark _)) (dss_one (ds_ret (de_bl))) (dss_nil))
    (dss_cons (DS.z 5 (ds_set (i := 5) nd__law_right rfl (by first | exact Or.inl rfl | exact Or.inr rfl) (c_p (cal_alike_webs M) hgd (hr.mono (by decide)) (da_cons (de_var 1) (da_cons (de_var 3) (da_nil))))))
    (dss_one (ds_ret (de_and (de_cmp op_notN lift_notN (de_var 5) (de_non) (nomark _)) (de_and (de_cmp (op_eqA hr.units) lift_eq (c_p (cal_renamed M) hgd (hr.mono (by decide)) (da_cons (de_var 1) (da_cons (de_var 5) (da_nil)))) (de_var 3) (nomark _)) (de_one (de_cmp (op_eqA hr.units) lift_eq (de_callB (call_repr hgd hr.units) lift_repr rfl M.blt.repr boot_repr (da_cons (de_var 1) (da_nil))) (de_var 2) (nomark _))))))))))⟩
theorem ok__law_right (M : Mod K mg) : FnG P w K mg base 10 (He.ga K "_law_right") M.fd__law_right ["feed", "web"] (spF K (S__law_right (He.ga K "Likeness") (He.ga K "Ties"))) :=
  okF M.F__law_right sc__law_right (hl__law_right (He.ga K "Likeness") (He.ga K "Ties")) fun cdv A outer s H hgd hr => let ⟨t, D⟩ := d__law_right M cdv A outer s H hgd hr
  ⟨t, _, D, vc__law_right (He.ga K "Likeness") (He.ga K "Ties")⟩
theorem bd__law_right (M : Mod K mg) : Binds K M.fd__law_right ["feed", "web"] [] := M.F__law_right.bindsN fun _ _ _ _ _ _ us hl => match us, hl with | [_, _], _ => rfl
theorem cal__law_right (M : Mod K mg) : Cal P w K mg base "_law_right" 10 (He.ga K "_law_right") M.fd__law_right ["feed", "web"] (spF K (S__law_right (He.ga K "Likeness") (He.ga K "Ties"))) := ⟨ok__law_right M, M.g__law_right, M.F__law_right.kp, bd__law_right M⟩
theorem sc_watch_lots : FnScope N_watch_lots ["web"] (defScope s_watch_lots) := ⟨rfl, rfl, rfl, by decide +kernel, rfl, by decide +kernel, by decide +kernel⟩
theorem nd_watch_lots : N_watch_lots.Nodup := sc_watch_lots.nd
theorem d_watch_lots (M : Mod K mg) {f : Addr} (cdv : Value) (A : Around) (outer : List Env) (s : Shared) (H : Hp) (hgd : A.guards = some []) (hr : Room 4 (A.deeper (envOfC "watch_lots" (defScope s_watch_lots) s.heap.objs.size f cdv))) :
    ∃ t, DSs (cxOf CX0 P w K mg base N_watch_lots "watch_lots" (defScope s_watch_lots) f cdv A outer s H E0) (defBody s_watch_lots) t (w_watch_lots (He.ga K "Ties")) := by
  have hp := owns (P := P) (w := w) (K := K) (mg := mg) (base := base) (N := N_watch_lots) (qual := "watch_lots") (scope := defScope s_watch_lots) (f := f) (cd := cdv) (A := A) (outer := outer) (s := s) (H := H)
  exact ⟨_, dss_cons (ds_set (i := 1) nd_watch_lots rfl (by first | exact Or.inl rfl | exact Or.inr rfl) (mk_Ties_ M hgd (hr.mono (by decide)) (da_cons (de_var 0) (da_nil))))
    (dss_cons (ds_set (i := 2) nd_watch_lots rfl (by first | exact Or.inl rfl | exact Or.inr rfl) (de_lst (da_nil)))
    (dss_cons (ds_for hp rfl (di_range1 rfl M.blt.range (da_cons (de_op op_addA lift_add (de_fld (de_var 1) M.c_Ties M.n_Ties_whole) (de_int)) (da_nil))) (dg_name (i := 3) (x := "lot") nd_watch_lots rfl (by first | exact Or.inl rfl | exact Or.inr rfl)) (dss_cons (ds_set (i := 4) nd_watch_lots rfl (by first | exact Or.inl rfl | exact Or.inr rfl) (de_var 3))
    (dss_cons (ds_for hp rfl (di_any (c_p (cal_things_of M) hgd (hr.mono (by decide)) (da_cons (de_var 3) (da_nil)))) (dg_name (i := 5) (x := "thing") nd_watch_lots rfl (by first | exact Or.inl rfl | exact Or.inr rfl)) (dss_one (ds_aug (i := 4) nd_watch_lots rfl (by first | exact Or.inl rfl | exact Or.inr rfl) iop_or lift_I (de_ix (de_fld (de_var 1) M.c_Ties M.n_Ties_to) (de_var 5) (fun _ _ => rfl)))))
    (dss_one (ds_if (dt_cmp (op_eqA hr.units) lift_eq (de_var 4) (de_fld (de_var 1) M.c_Ties M.n_Ties_whole) (nomark _)) (dss_one (ds_expr (de_append 2 (de_tup (da_cons (de_callB call_len lift_len rfl M.blt.len boot_len (da_cons (c_p (cal_things_of M) hgd (hr.mono (by decide)) (da_cons (de_var 3) (da_nil))) (da_nil))) (da_cons (de_callTy call_tuple_of lift_tuple rfl M.blt.tuple boot_tuple (da_cons (c_p (cal_things_of M) hgd (hr.mono (by decide)) (da_cons (de_var 3) (da_nil))) (da_nil))) (da_nil))))))) (dss_nil))))))
    (dss_one (ds_ret (de_ix (de_callB (cr_minD rfl hr.units) lift_best rfl M.blt.min boot_min (da_cons (de_var 2) (da_nil))) (de_int) (fun _ _ => rfl))))))⟩
theorem ok_watch_lots (M : Mod K mg) : FnG P w K mg base 5 (He.ga K "watch_lots") M.fd_watch_lots ["web"] (spP K (S_watch_lots (He.ga K "Ties"))) :=
  okP M.F_watch_lots sc_watch_lots (hl_watch_lots (He.ga K "Ties")) fun cdv A outer s H hgd hr => let ⟨t, D⟩ := d_watch_lots M cdv A outer s H hgd hr
  ⟨t, _, D, vc_watch_lots (He.ga K "Ties")⟩
theorem bd_watch_lots (M : Mod K mg) : Binds K M.fd_watch_lots ["web"] [] := M.F_watch_lots.bindsN fun _ _ _ _ _ _ us hl => match us, hl with | [_], _ => rfl
theorem cal_watch_lots (M : Mod K mg) : Cal P w K mg base "watch_lots" 5 (He.ga K "watch_lots") M.fd_watch_lots ["web"] (spP K (S_watch_lots (He.ga K "Ties"))) := ⟨ok_watch_lots M, M.g_watch_lots, M.F_watch_lots.kp, bd_watch_lots M⟩
theorem sc_fewest_watch : FnScope N_fewest_watch ["web"] (defScope s_fewest_watch) := ⟨rfl, rfl, rfl, by decide +kernel, rfl, by decide +kernel, by decide +kernel⟩
theorem nd_fewest_watch : N_fewest_watch.Nodup := sc_fewest_watch.nd
theorem d_fewest_watch (M : Mod K mg) {f : Addr} (cdv : Value) (A : Around) (outer : List Env) (s : Shared) (H : Hp) (hgd : A.guards = some []) (hr : Room 6 (A.deeper (envOfC "fewest_watch" (defScope s_fewest_watch) s.heap.objs.size f cdv))) :
    ∃ t, DSs (cxOf CX0 P w K mg base N_fewest_watch "fewest_watch" (defScope s_fewest_watch) f cdv A outer s H E0) (defBody s_fewest_watch) t (w_fewest_watch (He.ga K "Ties")) := by
  have hp := owns (P := P) (w := w) (K := K) (mg := mg) (base := base) (N := N_fewest_watch) (qual := "fewest_watch") (scope := defScope s_fewest_watch) (f := f) (cd := cdv) (A := A) (outer := outer) (s := s) (H := H)
  exact ⟨_, dss_cons (ds_expr (c_p (cal_need_web M) hgd (hr.mono (by decide)) (da_cons (de_var 0) (da_nil))))
    (dss_one (ds_ret (c_p (cal_watch_lots M) hgd (hr.mono (by decide)) (da_cons (de_var 0) (da_nil)))))⟩
theorem ok_fewest_watch (M : Mod K mg) : FnG P w K mg base 7 (He.ga K "fewest_watch") M.fd_fewest_watch ["web"] (spP K (S_fewest_watch (He.ga K "Ties"))) :=
  okP M.F_fewest_watch sc_fewest_watch (hl_fewest_watch (He.ga K "Ties")) fun cdv A outer s H hgd hr => let ⟨t, D⟩ := d_fewest_watch M cdv A outer s H hgd hr
  ⟨t, _, D, vc_fewest_watch (He.ga K "Ties")⟩
theorem bd_fewest_watch (M : Mod K mg) : Binds K M.fd_fewest_watch ["web"] [] := M.F_fewest_watch.bindsN fun _ _ _ _ _ _ us hl => match us, hl with | [_], _ => rfl
theorem cal_fewest_watch (M : Mod K mg) : Cal P w K mg base "fewest_watch" 7 (He.ga K "fewest_watch") M.fd_fewest_watch ["web"] (spP K (S_fewest_watch (He.ga K "Ties"))) := ⟨ok_fewest_watch M, M.g_fewest_watch, M.F_fewest_watch.kp, bd_fewest_watch M⟩
theorem bk_fewest_watch (M : Mod K mg) (s : Shared) (u : Value) : BindsTo s M.fd_fewest_watch ⟨[], [("web", u)]⟩ [("web", u)] := bindsK1 M.F_fewest_watch (fun _ _ _ _ _ _ _ => rfl) s u
theorem sc__law_near : FnScope N__law_near ["web"] (defScope s__law_near) := ⟨rfl, rfl, rfl, by decide +kernel, rfl, by decide +kernel, by decide +kernel⟩
theorem nd__law_near : N__law_near.Nodup := sc__law_near.nd
theorem d__law_near (M : Mod K mg) {f : Addr} (cdv : Value) (A : Around) (outer : List Env) (s : Shared) (H : Hp) (hgd : A.guards = some []) (hr : Room 1 (A.deeper (envOfC "_law_near" (defScope s__law_near) s.heap.objs.size f cdv))) :
    ∃ t, DSs (cxOf CX0 P w K mg base N__law_near "_law_near" (defScope s__law_near) f cdv A outer s H E0) (defBody s__law_near) t (w__law_near) := by
  have hp := owns (P := P) (w := w) (K := K) (mg := mg) (base := base) (N := N__law_near) (qual := "_law_near") (scope := defScope s__law_near) (f := f) (cd := cdv) (A := A) (outer := outer) (s := s) (H := H)
  exact ⟨_, dss_one (ds_ret (de_lcF (own := [("thing", 3)]) rfl nd__law_near (di_range1 rfl M.blt.range (da_cons (de_ix (de_var 0) (de_int) (fun _ _ => rfl)) (da_nil))) (blkOk_by (by rfl)) (fun i0 => dg_name (i := 3) (x := "thing") nd__law_near rfl (by first | exact Or.inl rfl | exact Or.inr rfl)) (fun i0 => dts_nil) (fun i0 => de_callB (cr_sortedD hr.units) lift_sorted rfl M.blt.sorted boot_sorted (da_cons (de_op op_addA lift_add (de_lcF (own := [("one", 1), ("two", 2)]) rfl nd__law_near (di_any (de_ix (de_var 0) (de_int) (fun _ _ => rfl))) (blkOk_by (by rfl)) (fun i0 => dg_tup rfl (dgs_cons (dg_name (i := 1) (x := "one") nd__law_near rfl (by first | exact Or.inl rfl | exact Or.inr rfl)) (dgs_cons (dg_name (i := 2) (x := "two") nd__law_near rfl (by first | exact Or.inl rfl | exact Or.inr rfl)) (dgs_nil)))) (fun i0 => dts_one (dt_cmp (op_eqA hr.units) lift_eq (de_var 1) (de_var 3) (nomark _))) (fun i0 => de_var 2)) (de_lcF (own := [("one", 1), ("two", 2)]) rfl nd__law_near (di_any (de_ix (de_var 0) (de_int) (fun _ _ => rfl))) (blkOk_by (by rfl)) (fun i0 => dg_tup rfl (dgs_cons (dg_name (i := 1) (x := "one") nd__law_near rfl (by first | exact Or.inl rfl | exact Or.inr rfl)) (dgs_cons (dg_name (i := 2) (x := "two") nd__law_near rfl (by first | exact Or.inl rfl | exact Or.inr rfl)) (dgs_nil)))) (fun i0 => dts_one (dt_cmp (op_eqA hr.units) lift_eq (de_var 2) (de_var 3) (nomark _))) (fun i0 => de_var 1))) (da_nil)))))⟩
theorem ok__law_near (M : Mod K mg) : FnG P w K mg base 2 (He.ga K "_law_near") M.fd__law_near ["web"] (spP K (S__law_near)) :=
  okP M.F__law_near sc__law_near (hl__law_near) fun cdv A outer s H hgd hr => let ⟨t, D⟩ := d__law_near M cdv A outer s H hgd hr
  ⟨t, _, D, vc__law_near⟩
theorem bd__law_near (M : Mod K mg) : Binds K M.fd__law_near ["web"] [] := M.F__law_near.bindsN fun _ _ _ _ _ _ us hl => match us, hl with | [_], _ => rfl
theorem cal__law_near (M : Mod K mg) : Cal P w K mg base "_law_near" 2 (He.ga K "_law_near") M.fd__law_near ["web"] (spP K (S__law_near)) := ⟨ok__law_near M, M.g__law_near, M.F__law_near.kp, bd__law_near M⟩
theorem sc__law_all : FnScope N__law_all ["web"] (defScope s__law_all) := ⟨rfl, rfl, rfl, by decide +kernel, rfl, by decide +kernel, by decide +kernel⟩
theorem nd__law_all : N__law_all.Nodup := sc__law_all.nd
theorem d__law_all (M : Mod K mg) {f : Addr} (cdv : Value) (A : Around) (outer : List Env) (s : Shared) (H : Hp) (hgd : A.guards = some []) (hr : Room 1 (A.deeper (envOfC "_law_all" (defScope s__law_all) s.heap.objs.size f cdv))) :
    ∃ t, DSs (cxOf CX0 P w K mg base N__law_all "_law_all" (defScope s__law_all) f cdv A outer s H E0) (defBody s__law_all) t (w__law_all) := by
  have hp := owns (P := P) (w := w) (K := K) (mg := mg) (base := base) (N := N__law_all) (qual := "_law_all") (scope := defScope s__law_all) (f := f) (cd := cdv) (A := A) (outer := outer) (s := s) (H := H)
  exact ⟨_, dss_one (ds_ret (de_listRg1 rfl rfl M.blt.list rfl M.blt.range (de_ix (de_var 0) (de_int) (fun _ _ => rfl))))⟩
theorem ok__law_all (M : Mod K mg) : FnG P w K mg base 2 (He.ga K "_law_all") M.fd__law_all ["web"] (spP K (S__law_all)) :=
  okP M.F__law_all sc__law_all (hl__law_all) fun cdv A outer s H hgd hr => let ⟨t, D⟩ := d__law_all M cdv A outer s H hgd hr
  ⟨t, _, D, vc__law_all⟩
theorem bd__law_all (M : Mod K mg) : Binds K M.fd__law_all ["web"] [] := M.F__law_all.bindsN fun _ _ _ _ _ _ us hl => match us, hl with | [_], _ => rfl
theorem cal__law_all (M : Mod K mg) : Cal P w K mg base "_law_all" 2 (He.ga K "_law_all") M.fd__law_all ["web"] (spP K (S__law_all)) := ⟨ok__law_all M, M.g__law_all, M.F__law_all.kp, bd__law_all M⟩
theorem sc__law_lots : FnScope N__law_lots ["things"] (defScope s__law_lots) := ⟨rfl, rfl, rfl, by decide +kernel, rfl, by decide +kernel, by decide +kernel⟩
theorem nd__law_lots : N__law_lots.Nodup := sc__law_lots.nd
theorem d__law_lots (M : Mod K mg) {f : Addr} (cdv : Value) (A : Around) (outer : List Env) (s : Shared) (H : Hp) (hgd : A.guards = some []) (hr : Room 1 (A.deeper (envOfC "_law_lots" (defScope s__law_lots) s.heap.objs.size f cdv))) :
    ∃ t, DSs (cxOf CX0 P w K mg base N__law_lots "_law_lots" (defScope s__law_lots) f cdv A outer s H E0) (defBody s__law_lots) t (w__law_lots) := by
  have hp := owns (P := P) (w := w) (K := K) (mg := mg) (base := base) (N := N__law_lots) (qual := "_law_lots") (scope := defScope s__law_lots) (f := f) (cd := cdv) (A := A) (outer := outer) (s := s) (H := H)
  exact ⟨_, dss_cons (DS.z 1 (ds_set (i := 1) nd__law_lots rfl (by first | exact Or.inl rfl | exact Or.inr rfl) (de_lst (da_cons (de_tup (da_nil)) (da_nil)))))
    (dss_cons (ds_for hp rfl (di_any (de_var 0)) (dg_name (i := 2) (x := "thing") nd__law_lots rfl (by first | exact Or.inl rfl | exact Or.inr rfl)) (dss_one (DS.z 1 (ds_set (i := 1) nd__law_lots rfl (by first | exact Or.inl rfl | exact Or.inr rfl) (de_op op_addA lift_add (de_var 1) (de_lcF (own := [("lot", 3)]) rfl nd__law_lots (di_any (de_var 1)) (blkOk_by (by rfl)) (fun i0 => dg_name (i := 3) (x := "lot") nd__law_lots rfl (by first | exact Or.inl rfl | exact Or.inr rfl)) (fun i0 => dts_nil) (fun i0 => de_op op_addA lift_add (de_var 3) (de_tup (da_cons (de_var 2) (da_nil))))))))))
    (dss_one (ds_ret (de_lcF (own := [("size", 4), ("lot", 3)]) rfl nd__law_lots (di_any (de_callB (cr_sortedD hr.units) lift_sorted rfl M.blt.sorted boot_sorted (da_cons (de_lcF (own := [("lot", 3)]) rfl nd__law_lots (di_any (de_var 1)) (blkOk_by (by rfl)) (fun i0 => dg_name (i := 3) (x := "lot") nd__law_lots rfl (by first | exact Or.inl rfl | exact Or.inr rfl)) (fun i0 => dts_nil) (fun i0 => de_tup (da_cons (de_callB call_len lift_len rfl M.blt.len boot_len (da_cons (de_var 3) (da_nil))) (da_cons (de_var 3) (da_nil))))) (da_nil)))) (blkOk_by (by rfl)) (fun i0 => dg_tup rfl (dgs_cons (dg_name (i := 4) (x := "size") nd__law_lots rfl (by first | exact Or.inl rfl | exact Or.inr rfl)) (dgs_cons (dg_name (i := 3) (x := "lot") nd__law_lots rfl (by first | exact Or.inl rfl | exact Or.inr rfl)) (dgs_nil)))) (fun i0 => dts_nil) (fun i0 => de_var 3)))))⟩
theorem ok__law_lots (M : Mod K mg) : FnG P w K mg base 2 (He.ga K "_law_lots") M.fd__law_lots ["things"] (spP K (S__law_lots)) :=
  okP M.F__law_lots sc__law_lots (hl__law_lots) fun cdv A outer s H hgd hr => let ⟨t, D⟩ := d__law_lots M cdv A outer s H hgd hr
  ⟨t, _, D, vc__law_lots⟩
theorem bd__law_lots (M : Mod K mg) : Binds K M.fd__law_lots ["things"] [] := M.F__law_lots.bindsN fun _ _ _ _ _ _ us hl => match us, hl with | [_], _ => rfl
theorem cal__law_lots (M : Mod K mg) : Cal P w K mg base "_law_lots" 2 (He.ga K "_law_lots") M.fd__law_lots ["things"] (spP K (S__law_lots)) := ⟨ok__law_lots M, M.g__law_lots, M.F__law_lots.kp, bd__law_lots M⟩
theorem sc__law_watch_right : FnScope N__law_watch_right ["web"] (defScope s__law_watch_right) := ⟨rfl, rfl, rfl, by decide +kernel, rfl, by decide +kernel, by decide +kernel⟩
theorem nd__law_watch_right : N__law_watch_right.Nodup := sc__law_watch_right.nd
theorem d__law_watch_right (M : Mod K mg) {f : Addr} (cdv : Value) (A : Around) (outer : List Env) (s : Shared) (H : Hp) (hgd : A.guards = some []) (hr : Room 7 (A.deeper (envOfC "_law_watch_right" (defScope s__law_watch_right) s.heap.objs.size f cdv))) :
    ∃ t, DSs (cxOf CX0 P w K mg base N__law_watch_right "_law_watch_right" (defScope s__law_watch_right) f cdv A outer s H E0) (defBody s__law_watch_right) t (w__law_watch_right (He.ga K "Ties")) := by
  have hp := owns (P := P) (w := w) (K := K) (mg := mg) (base := base) (N := N__law_watch_right) (qual := "_law_watch_right") (scope := defScope s__law_watch_right) (f := f) (cd := cdv) (A := A) (outer := outer) (s := s) (H := H)
  exact ⟨_, dss_cons (DS.z 1 (ds_parC (i := 1) (j := 2) rfl nd__law_watch_right rfl rfl (by first | exact Or.inl rfl | exact Or.inr rfl) (by first | exact Or.inl rfl | exact Or.inr rfl) (dr_cons (c_p (cal__law_near M) hgd (hr.mono (by decide)) (da_cons (de_var 0) (da_nil))) (dr_cons (de_callB (call_repr hgd hr.units) lift_repr rfl M.blt.repr boot_repr (da_cons (de_var 0) (da_nil))) (dr_nil))) rfl rfl))
    (dss_cons (ds_set (i := 3) nd__law_watch_right rfl (by first | exact Or.inl rfl | exact Or.inr rfl) (de_non))
    (dss_cons (ds_for hp rfl (di_any (c_p (cal__law_lots M) hgd (hr.mono (by decide)) (da_cons (c_p (cal__law_all M) hgd (hr.mono (by decide)) (da_cons (de_var 0) (da_nil))) (da_nil)))) (dg_name (i := 4) (x := "lot") nd__law_watch_right rfl (by first | exact Or.inl rfl | exact Or.inr rfl)) (dss_one (ds_if (dt_cmp (op_eqA hr.units) lift_eq (de_lcF (own := [("thing", 5)]) rfl nd__law_watch_right (di_any (c_p (cal__law_all M) hgd (hr.mono (by decide)) (da_cons (de_var 0) (da_nil)))) (blkOk_by (by rfl)) (fun i0 => dg_name (i := 5) (x := "thing") nd__law_watch_right rfl (by first | exact Or.inl rfl | exact Or.inr rfl)) (fun i0 => dts_one (DW.dt (dw_and (dt_cmp op_notIn_seq lift_in (de_var 5) (de_var 4) rfl) (dw_and1 (dt_cmp (op_eqA hr.units) lift_eq (de_lcF (own := [("other", 6)]) rfl nd__law_watch_right (di_any (de_ix (de_var 1) (de_var 5) (fun _ _ => rfl))) (blkOk_by (by rfl)) (fun i0 => dg_name (i := 6) (x := "other") nd__law_watch_right rfl (by first | exact Or.inl rfl | exact Or.inr rfl)) (fun i0 => dts_one (dt_cmp op_in_seq lift_in (de_var 6) (de_var 4) rfl)) (fun i0 => de_var 6)) (de_lst (da_nil)) (nomark _)))))) (fun i0 => de_var 5)) (de_lst (da_nil)) (nomark _)) (dss_cons (ds_set (i := 3) nd__law_watch_right rfl (by first | exact Or.inl rfl | exact Or.inr rfl) (de_var 4))
    (dss_one (ds_break))) (dss_nil))))
    (dss_one (ds_ret (de_and (de_cmp (op_eqA hr.units) lift_eq (de_callB (call_repr hgd hr.units) lift_repr rfl M.blt.repr boot_repr (da_cons (de_lst (da_cons (c_p (cal_fewest_watch M) hgd (hr.mono (by decide)) (da_cons (de_var 0) (da_nil))) (da_cons (c_k1 (ok_fewest_watch M) M.F_fewest_watch.kp (bk_fewest_watch M) M.g_fewest_watch hgd (hr.mono (by decide)) (de_var 0)) (da_nil)))) (da_nil))) (de_callB (call_repr hgd hr.units) lift_repr rfl M.blt.repr boot_repr (da_cons (de_lst (da_cons (de_var 3) (da_cons (de_var 3) (da_nil)))) (da_nil))) (nomark _)) (de_one (de_cmp (op_eqA hr.units) lift_eq (de_callB (call_repr hgd hr.units) lift_repr rfl M.blt.repr boot_repr (da_cons (de_var 0) (da_nil))) (de_var 2) (nomark _))))))))⟩
theorem ok__law_watch_right (M : Mod K mg) : FnG P w K mg base 8 (He.ga K "_law_watch_right") M.fd__law_watch_right ["web"] (spP K (S__law_watch_right (He.ga K "Ties"))) :=
  okP M.F__law_watch_right sc__law_watch_right (hl__law_watch_right (He.ga K "Ties")) fun cdv A outer s H hgd hr => let ⟨t, D⟩ := d__law_watch_right M cdv A outer s H hgd hr
  ⟨t, _, D, vc__law_watch_right (He.ga K "Ties")⟩
theorem bd__law_watch_right (M : Mod K mg) : Binds K M.fd__law_watch_right ["web"] [] := M.F__law_watch_right.bindsN fun _ _ _ _ _ _ us hl => match us, hl with | [_], _ => rfl
theorem cal__law_watch_right (M : Mod K mg) : Cal P w K mg base "_law_watch_right" 8 (He.ga K "_law_watch_right") M.fd__law_watch_right ["web"] (spP K (S__law_watch_right (He.ga K "Ties"))) := ⟨ok__law_watch_right M, M.g__law_watch_right, M.F__law_watch_right.kp, bd__law_watch_right M⟩
theorem sc_law : FnScope N_law ["script"] (defScope s_law) := ⟨rfl, rfl, rfl, by decide +kernel, rfl, by decide +kernel, by decide +kernel⟩
theorem nd_law : N_law.Nodup := sc_law.nd
theorem d_law (M : Mod K mg) {f : Addr} (cdv : Value) (A : Around) (outer : List Env) (s : Shared) (H : Hp) (hgd : A.guards = some []) (hr : Room 10 (A.deeper (envOfC "law" (defScope s_law) s.heap.objs.size f cdv))) :
    ∃ t, DSs (cxOf CX0 P w K mg base N_law "law" (defScope s_law) f cdv A outer s H E0) (defBody s_law) t (w_law (He.ga K "Likeness") (He.ga K "Ties")) := by
  have hp := owns (P := P) (w := w) (K := K) (mg := mg) (base := base) (N := N_law) (qual := "law") (scope := defScope s_law) (f := f) (cd := cdv) (A := A) (outer := outer) (s := s) (H := H)
  exact ⟨_, dss_cons (ds_for hp rfl (di_range1 rfl M.blt.range (da_cons (de_callB (call_max2 rfl) lift_max2 rfl M.blt.max boot_max (da_cons (de_int) (da_cons (de_callB (call_min2 rfl) lift_min2 rfl M.blt.min boot_min (da_cons (de_callB call_len lift_len rfl M.blt.len boot_len (da_cons (de_var 0) (da_nil))) (da_cons (de_int) (da_nil)))) (da_nil)))) (da_nil))) (dg_name (i := 1) (x := "k") nd_law rfl (by first | exact Or.inl rfl | exact Or.inr rfl)) (dss_cons (ds_set (i := 2) nd_law rfl (by first | exact Or.inl rfl | exact Or.inr rfl) (c_p (cal__law_feed M) hgd (hr.mono (by decide)) (da_cons (de_var 0) (da_cons (de_var 1) (da_nil)))))
    (dss_cons (ds_if (DW.dt (dw_or (dt_not (dt_val (c_f 2 (cal__law_right M) hgd (hr.mono (by decide)) (da_cons (c_f 2 (cal__law_web M) hgd (hr.mono (by decide)) (da_cons (de_int) (da_nil))) (da_nil))))) (dw_or1 (dt_not (dt_val (c_f 2 (cal__law_right M) hgd (hr.mono (by decide)) (da_cons (c_f 2 (cal__law_web M) hgd (hr.mono (by decide)) (da_cons (c_f 2 (cal__law_one M) hgd (hr.mono (by decide)) (da_cons (de_lst (da_cons (de_int) (da_cons (de_int) (da_nil)))) (da_nil))) (da_nil))) (da_nil)))))))) (dss_one (ds_ret (de_bl))) (dss_nil))
    (dss_one (ds_if (DW.dt (dw_or (dt_not (dt_val (c_p (cal__law_watch_right M) hgd (hr.mono (by decide)) (da_cons (c_f 2 (cal__law_web M) hgd (hr.mono (by decide)) (da_cons (de_int) (da_nil))) (da_nil))))) (dw_or1 (dt_not (dt_val (c_p (cal__law_watch_right M) hgd (hr.mono (by decide)) (da_cons (c_f 2 (cal__law_web M) hgd (hr.mono (by decide)) (da_cons (de_int) (da_nil))) (da_nil)))))))) (dss_one (ds_ret (de_bl))) (dss_nil))))))
    (dss_one (ds_ret (de_bl)))⟩
theorem ok_law (M : Mod K mg) : FnG P w K mg base 11 (He.ga K "law") M.fd_law ["script"] (spP K (S_law (He.ga K "Likeness") (He.ga K "Ties"))) :=
  okP M.F_law sc_law (hl_law (He.ga K "Likeness") (He.ga K "Ties")) fun cdv A outer s H hgd hr => let ⟨t, D⟩ := d_law M cdv A outer s H hgd hr
  ⟨t, _, D, vc_law (He.ga K "Likeness") (He.ga K "Ties")⟩
theorem bd_law (M : Mod K mg) : Binds K M.fd_law ["script"] [] := M.F_law.bindsN fun _ _ _ _ _ _ us hl => match us, hl with | [_], _ => rfl
theorem cal_law (M : Mod K mg) : Cal P w K mg base "law" 11 (He.ga K "law") M.fd_law ["script"] (spP K (S_law (He.ga K "Likeness") (He.ga K "Ties"))) := ⟨ok_law M, M.g_law, M.F_law.kp, bd_law M⟩
end
def fnl : List He.DefD := [⟨("_law_feed", none), "_law_feed", "_law_feed", defArgs s__law_feed, defBody s__law_feed, defScope s__law_feed, [], []⟩,
  ⟨("_law_draw", none), "_law_draw", "_law_draw", defArgs s__law_draw, defBody s__law_draw, defScope s__law_draw, [], []⟩,
  ⟨("_law_one", none), "_law_one", "_law_one", defArgs s__law_one, defBody s__law_one, defScope s__law_one, [], []⟩,
  ⟨("_law_mixed", none), "_law_mixed", "_law_mixed", defArgs s__law_mixed, defBody s__law_mixed, defScope s__law_mixed, [], []⟩,
  ⟨("_law_pairs", none), "_law_pairs", "_law_pairs", defArgs s__law_pairs, defBody s__law_pairs, defScope s__law_pairs, [], []⟩,
  ⟨("_law_shared", none), "_law_shared", "_law_shared", defArgs s__law_shared, defBody s__law_shared, defScope s__law_shared, [], []⟩,
  ⟨("_law_tree_ties", none), "_law_tree_ties", "_law_tree_ties", defArgs s__law_tree_ties, defBody s__law_tree_ties, defScope s__law_tree_ties, [], []⟩,
  ⟨("_law_stacked_ties", none), "_law_stacked_ties", "_law_stacked_ties", defArgs s__law_stacked_ties, defBody s__law_stacked_ties, defScope s__law_stacked_ties, [], []⟩,
  ⟨("_law_barred_ties", none), "_law_barred_ties", "_law_barred_ties", defArgs s__law_barred_ties, defBody s__law_barred_ties, defScope s__law_barred_ties, [], []⟩,
  ⟨("_law_cube", none), "_law_cube", "_law_cube", defArgs s__law_cube, defBody s__law_cube, defScope s__law_cube, [], []⟩,
  ⟨("_law_made", none), "_law_made", "_law_made", defArgs s__law_made, defBody s__law_made, defScope s__law_made, [], []⟩,
  ⟨("_law_web", none), "_law_web", "_law_web", defArgs s__law_web, defBody s__law_web, defScope s__law_web, [], []⟩,
  ⟨("renamed_web", none), "renamed_web", "renamed_web", defArgs s_renamed_web, defBody s_renamed_web, defScope s_renamed_web, [], []⟩,
  ⟨("Ties", some "are_tied"), "are_tied", "Ties.are_tied", defArgs s_Ties_are_tied, defBody s_Ties_are_tied, defScope s_Ties_are_tied, [], []⟩,
  ⟨("first_form_of", none), "first_form_of", "first_form_of", defArgs s_first_form_of, defBody s_first_form_of, defScope s_first_form_of, [], []⟩,
  ⟨("is_integer", none), "is_integer", "is_integer", defArgs s_is_integer, defBody s_is_integer, defScope s_is_integer, [], []⟩,
  ⟨("is_within", none), "is_within", "is_within", defArgs s_is_within, defBody s_is_within, defScope s_is_within, [], []⟩,
  ⟨("is_row", none), "is_row", "is_row", defArgs s_is_row, defBody s_is_row, defScope s_is_row, [], []⟩,
  ⟨("is_rising", none), "is_rising", "is_rising", defArgs s_is_rising, defBody s_is_rising, defScope s_is_rising, [], []⟩,
  ⟨("is_tie", none), "is_tie", "is_tie", defArgs s_is_tie, defBody s_is_tie, defScope s_is_tie, [], []⟩,
  ⟨("is_web_form", none), "is_web_form", "is_web_form", defArgs s_is_web_form, defBody s_is_web_form, defScope s_is_web_form, [], []⟩,
  ⟨("need_web", none), "need_web", "need_web", defArgs s_need_web, defBody s_need_web, defScope s_need_web, [], []⟩,
  ⟨("need_small", none), "need_small", "need_small", defArgs s_need_small, defBody s_need_small, defScope s_need_small, [], []⟩,
  ⟨("first_form", none), "first_form", "first_form", defArgs s_first_form, defBody s_first_form, defScope s_first_form, [], []⟩,
  ⟨("is_order_of", none), "is_order_of", "is_order_of", defArgs s_is_order_of, defBody s_is_order_of, defScope s_is_order_of, [], []⟩,
  ⟨("need_order", none), "need_order", "need_order", defArgs s_need_order, defBody s_need_order, defScope s_need_order, [], []⟩,
  ⟨("renamed", none), "renamed", "renamed", defArgs s_renamed, defBody s_renamed, defScope s_renamed, [], []⟩,
  ⟨("things_of", none), "things_of", "things_of", defArgs s_things_of, defBody s_things_of, defScope s_things_of, [], []⟩,
  ⟨("lot_of", none), "lot_of", "lot_of", defArgs s_lot_of, defBody s_lot_of, defScope s_lot_of, [], []⟩,
  ⟨("things_tied", none), "things_tied", "things_tied", defArgs s_things_tied, defBody s_things_tied, defScope s_things_tied, [], []⟩,
  ⟨("Likeness", some "fits"), "fits", "Likeness.fits", defArgs s_Likeness_fits, defBody s_Likeness_fits, defScope s_Likeness_fits, [], []⟩,
  ⟨("Likeness", some "first"), "first", "Likeness.first", defArgs s_Likeness_first, defBody s_Likeness_first, defScope s_Likeness_first, [], []⟩,
  ⟨("first_likeness", none), "first_likeness", "first_likeness", defArgs s_first_likeness, defBody s_first_likeness, defScope s_first_likeness, [], []⟩,
  ⟨("alike_webs", none), "alike_webs", "alike_webs", defArgs s_alike_webs, defBody s_alike_webs, defScope s_alike_webs, [], []⟩,
  ⟨("_law_first", none), "_law_first", "_law_first", defArgs s__law_first, defBody s__law_first, defScope s__law_first, [], []⟩,
  ⟨("_law_right", none), "_law_right", "_law_right", defArgs s__law_right, defBody s__law_right, defScope s__law_right, [], []⟩,
  ⟨("watch_lots", none), "watch_lots", "watch_lots", defArgs s_watch_lots, defBody s_watch_lots, defScope s_watch_lots, [], []⟩,
  ⟨("fewest_watch", none), "fewest_watch", "fewest_watch", defArgs s_fewest_watch, defBody s_fewest_watch, defScope s_fewest_watch, [], []⟩,
  ⟨("_law_near", none), "_law_near", "_law_near", defArgs s__law_near, defBody s__law_near, defScope s__law_near, [], []⟩,
  ⟨("_law_all", none), "_law_all", "_law_all", defArgs s__law_all, defBody s__law_all, defScope s__law_all, [], []⟩,
  ⟨("_law_lots", none), "_law_lots", "_law_lots", defArgs s__law_lots, defBody s__law_lots, defScope s__law_lots, [], []⟩,
  ⟨("_law_watch_right", none), "_law_watch_right", "_law_watch_right", defArgs s__law_watch_right, defBody s__law_watch_right, defScope s__law_watch_right, [], []⟩,
  ⟨("law", none), "law", "law", defArgs s_law, defBody s_law, defScope s_law, [], []⟩,
  ⟨("Ties", some "__init__"), "__init__", "Ties.__init__", defArgs s_Ties___init__, defBody s_Ties___init__, defScope s_Ties___init__, [], []⟩,
  ⟨("Likeness", some "__init__"), "__init__", "Likeness.__init__", defArgs s_Likeness___init__, defBody s_Likeness___init__, defScope s_Likeness___init__, [], []⟩]
def fal : List He.Fa := [.free "all", .free "bool", .free "enumerate", .free "int", .free "isinstance", .free "len", .free "list", .free "max", .free "min", .free "range", .free "repr", .free "set", .free "sorted", .free "sum", .free "tuple", .free "zip", .glo "_law_feed", .glo "_law_draw", .glo "_law_one", .glo "_law_mixed", .glo "_law_pairs", .glo "_law_shared", .glo "_law_tree_ties", .glo "_law_stacked_ties", .glo "_law_barred_ties", .glo "_law_cube", .glo "_law_made", .glo "_law_web", .glo "renamed_web", .meth "Ties" "are_tied", .glo "first_form_of", .glo "is_integer", .glo "is_within", .glo "is_row", .glo "is_rising", .glo "is_tie", .glo "is_web_form", .glo "need_web", .glo "need_small", .glo "first_form", .glo "is_order_of", .glo "need_order", .glo "renamed", .glo "things_of", .glo "lot_of", .glo "things_tied", .meth "Likeness" "fits", .meth "Likeness" "first", .glo "first_likeness", .glo "alike_webs", .glo "_law_first", .glo "_law_right", .glo "watch_lots", .glo "fewest_watch", .glo "_law_near", .glo "_law_all", .glo "_law_lots", .glo "_law_watch_right", .glo "law", .glo "Ties", .cls "Ties", .mkr "Ties", .noat "Ties" "many", .noat "Ties" "to", .noat "Ties" "whole", .glo "Likeness", .cls "Likeness", .mkr "Likeness", .noat "Likeness" "ties", .noat "Likeness" "goal", .int "MOST_THINGS" 10, .int "MOST_FORMED" 7, .int "MOST_ALIKE" 8]
theorem mod_of {K : PySem.W.Frag} {h : Heap} {mg : Str → Option Value} (X : K.In h) (G : h.Ns mainGlobals mg) (c : He.SaysD fal fnl K) : Nonempty (Mod K mg) := by
  obtain ⟨fd__law_feed, F__law_feed⟩ := c.def_ 0 rfl
  obtain ⟨fd__law_draw, F__law_draw⟩ := c.def_ 1 rfl
  obtain ⟨fd__law_one, F__law_one⟩ := c.def_ 2 rfl
  obtain ⟨fd__law_mixed, F__law_mixed⟩ := c.def_ 3 rfl
  obtain ⟨fd__law_pairs, F__law_pairs⟩ := c.def_ 4 rfl
  obtain ⟨fd__law_shared, F__law_shared⟩ := c.def_ 5 rfl
  obtain ⟨fd__law_tree_ties, F__law_tree_ties⟩ := c.def_ 6 rfl
  obtain ⟨fd__law_stacked_ties, F__law_stacked_ties⟩ := c.def_ 7 rfl
  obtain ⟨fd__law_barred_ties, F__law_barred_ties⟩ := c.def_ 8 rfl
  obtain ⟨fd__law_cube, F__law_cube⟩ := c.def_ 9 rfl
  obtain ⟨fd__law_made, F__law_made⟩ := c.def_ 10 rfl
  obtain ⟨fd__law_web, F__law_web⟩ := c.def_ 11 rfl
  obtain ⟨fd_renamed_web, F_renamed_web⟩ := c.def_ 12 rfl
  obtain ⟨fd_Ties_are_tied, F_Ties_are_tied⟩ := c.def_ 13 rfl
  obtain ⟨fd_first_form_of, F_first_form_of⟩ := c.def_ 14 rfl
  obtain ⟨fd_is_integer, F_is_integer⟩ := c.def_ 15 rfl
  obtain ⟨fd_is_within, F_is_within⟩ := c.def_ 16 rfl
  obtain ⟨fd_is_row, F_is_row⟩ := c.def_ 17 rfl
  obtain ⟨fd_is_rising, F_is_rising⟩ := c.def_ 18 rfl
  obtain ⟨fd_is_tie, F_is_tie⟩ := c.def_ 19 rfl
  obtain ⟨fd_is_web_form, F_is_web_form⟩ := c.def_ 20 rfl
  obtain ⟨fd_need_web, F_need_web⟩ := c.def_ 21 rfl
  obtain ⟨fd_need_small, F_need_small⟩ := c.def_ 22 rfl
  obtain ⟨fd_first_form, F_first_form⟩ := c.def_ 23 rfl
  obtain ⟨fd_is_order_of, F_is_order_of⟩ := c.def_ 24 rfl
  obtain ⟨fd_need_order, F_need_order⟩ := c.def_ 25 rfl
  obtain ⟨fd_renamed, F_renamed⟩ := c.def_ 26 rfl
  obtain ⟨fd_things_of, F_things_of⟩ := c.def_ 27 rfl
  obtain ⟨fd_lot_of, F_lot_of⟩ := c.def_ 28 rfl
  obtain ⟨fd_things_tied, F_things_tied⟩ := c.def_ 29 rfl
  obtain ⟨fd_Likeness_fits, F_Likeness_fits⟩ := c.def_ 30 rfl
  obtain ⟨fd_Likeness_first, F_Likeness_first⟩ := c.def_ 31 rfl
  obtain ⟨fd_first_likeness, F_first_likeness⟩ := c.def_ 32 rfl
  obtain ⟨fd_alike_webs, F_alike_webs⟩ := c.def_ 33 rfl
  obtain ⟨fd__law_first, F__law_first⟩ := c.def_ 34 rfl
  obtain ⟨fd__law_right, F__law_right⟩ := c.def_ 35 rfl
  obtain ⟨fd_watch_lots, F_watch_lots⟩ := c.def_ 36 rfl
  obtain ⟨fd_fewest_watch, F_fewest_watch⟩ := c.def_ 37 rfl
  obtain ⟨fd__law_near, F__law_near⟩ := c.def_ 38 rfl
  obtain ⟨fd__law_all, F__law_all⟩ := c.def_ 39 rfl
  obtain ⟨fd__law_lots, F__law_lots⟩ := c.def_ 40 rfl
  obtain ⟨fd__law_watch_right, F__law_watch_right⟩ := c.def_ 41 rfl
  obtain ⟨fd_law, F_law⟩ := c.def_ 42 rfl
  obtain ⟨fd_Ties___init__, F_Ties___init__⟩ := c.def_ 43 rfl
  obtain ⟨fd_Likeness___init__, F_Likeness___init__⟩ := c.def_ 44 rfl
  exact ⟨⟨⟨He.free_ok X G (c.fact 0 rfl), He.free_ok X G (c.fact 1 rfl), He.free_ok X G (c.fact 2 rfl), He.free_ok X G (c.fact 3 rfl), He.free_ok X G (c.fact 4 rfl), He.free_ok X G (c.fact 5 rfl), He.free_ok X G (c.fact 6 rfl), He.free_ok X G (c.fact 7 rfl), He.free_ok X G (c.fact 8 rfl), He.free_ok X G (c.fact 9 rfl), He.free_ok X G (c.fact 10 rfl), He.free_ok X G (c.fact 11 rfl), He.free_ok X G (c.fact 12 rfl), He.free_ok X G (c.fact 13 rfl), He.free_ok X G (c.fact 14 rfl), He.free_ok X G (c.fact 15 rfl)⟩, fd__law_feed, F__law_feed, He.glo_ok X G (c.fact 16 rfl), fd__law_draw, F__law_draw, He.glo_ok X G (c.fact 17 rfl), fd__law_one, F__law_one, He.glo_ok X G (c.fact 18 rfl), fd__law_mixed, F__law_mixed, He.glo_ok X G (c.fact 19 rfl), fd__law_pairs, F__law_pairs, He.glo_ok X G (c.fact 20 rfl), fd__law_shared, F__law_shared, He.glo_ok X G (c.fact 21 rfl), fd__law_tree_ties, F__law_tree_ties, He.glo_ok X G (c.fact 22 rfl), fd__law_stacked_ties, F__law_stacked_ties, He.glo_ok X G (c.fact 23 rfl), fd__law_barred_ties, F__law_barred_ties, He.glo_ok X G (c.fact 24 rfl), fd__law_cube, F__law_cube, He.glo_ok X G (c.fact 25 rfl), fd__law_made, F__law_made, He.glo_ok X G (c.fact 26 rfl), fd__law_web, F__law_web, He.glo_ok X G (c.fact 27 rfl), fd_renamed_web, F_renamed_web, He.glo_ok X G (c.fact 28 rfl), fd_Ties_are_tied, F_Ties_are_tied, He.meth_ok (c.fact 29 rfl), fd_first_form_of, F_first_form_of, He.glo_ok X G (c.fact 30 rfl), fd_is_integer, F_is_integer, He.glo_ok X G (c.fact 31 rfl), fd_is_within, F_is_within, He.glo_ok X G (c.fact 32 rfl), fd_is_row, F_is_row, He.glo_ok X G (c.fact 33 rfl), fd_is_rising, F_is_rising, He.glo_ok X G (c.fact 34 rfl), fd_is_tie, F_is_tie, He.glo_ok X G (c.fact 35 rfl), fd_is_web_form, F_is_web_form, He.glo_ok X G (c.fact 36 rfl), fd_need_web, F_need_web, He.glo_ok X G (c.fact 37 rfl), fd_need_small, F_need_small, He.glo_ok X G (c.fact 38 rfl), fd_first_form, F_first_form, He.glo_ok X G (c.fact 39 rfl), fd_is_order_of, F_is_order_of, He.glo_ok X G (c.fact 40 rfl), fd_need_order, F_need_order, He.glo_ok X G (c.fact 41 rfl), fd_renamed, F_renamed, He.glo_ok X G (c.fact 42 rfl), fd_things_of, F_things_of, He.glo_ok X G (c.fact 43 rfl), fd_lot_of, F_lot_of, He.glo_ok X G (c.fact 44 rfl), fd_things_tied, F_things_tied, He.glo_ok X G (c.fact 45 rfl), fd_Likeness_fits, F_Likeness_fits, He.meth_ok (c.fact 46 rfl), fd_Likeness_first, F_Likeness_first, He.meth_ok (c.fact 47 rfl), fd_first_likeness, F_first_likeness, He.glo_ok X G (c.fact 48 rfl), fd_alike_webs, F_alike_webs, He.glo_ok X G (c.fact 49 rfl), fd__law_first, F__law_first, He.glo_ok X G (c.fact 50 rfl), fd__law_right, F__law_right, He.glo_ok X G (c.fact 51 rfl), fd_watch_lots, F_watch_lots, He.glo_ok X G (c.fact 52 rfl), fd_fewest_watch, F_fewest_watch, He.glo_ok X G (c.fact 53 rfl), fd__law_near, F__law_near, He.glo_ok X G (c.fact 54 rfl), fd__law_all, F__law_all, He.glo_ok X G (c.fact 55 rfl), fd__law_lots, F__law_lots, He.glo_ok X G (c.fact 56 rfl), fd__law_watch_right, F__law_watch_right, He.glo_ok X G (c.fact 57 rfl), fd_law, F_law, He.glo_ok X G (c.fact 58 rfl), fd_Ties___init__, F_Ties___init__, fd_Likeness___init__, F_Likeness___init__, He.glo_ok X G (c.fact 59 rfl), He.cls_ok (c.fact 60 rfl), He.mkr_ok (c.fact 61 rfl), He.noat_ok (c.fact 62 rfl), He.noat_ok (c.fact 63 rfl), He.noat_ok (c.fact 64 rfl), He.glo_ok X G (c.fact 65 rfl), He.cls_ok (c.fact 66 rfl), He.mkr_ok (c.fact 67 rfl), He.noat_ok (c.fact 68 rfl), He.noat_ok (c.fact 69 rfl), He.int_ok X G (c.fact 70 rfl), He.int_ok X G (c.fact 71 rfl), He.int_ok X G (c.fact 72 rfl)⟩⟩
end K87

set_option Elab.async false
set_option linter.all false
set_option maxRecDepth 100000
set_option maxHeartbeats 1000000
/-! The law's own call, from a promise over FnG. -/
namespace DC
open PySem PySem.Spec PyProof.Rows L2
/-- at one abstract heap T that tracks the script at most -/
theorem run_at {P : Program} {w : World} {K : PySem.W.Frag} {mg mb : Str → Option Value} {k : Nat} {fa a : Addr} {fd : FuncData} {x : Str} {S : SPc} {st : Shared} {vals : List Value} {nums : List Int} {T : Hp}
    (inK : K.In st.heap) (nsG : st.heap.Ns mainGlobals mg) (nsB : st.heap.Ns builtinsNs mb) (nsE : ∀ y : Str, y ≠ "__name__" → mb y = bootBuiltins y) (lim : st.heap.NoLimit) (gens : st.gens = #[])
    (obj : st.heap.get? a = some { cls := .type "list", data := .seq vals.toArray }) (room : Room k callerA) (F : ∀ b0 : Heap, K.In b0 → b0.Ns mainGlobals mg → FnG P w K mg b0 k fa fd [x] (spP K S)) (bind : ∀ (s : Shared) (u : Value), BindsTo s fd ⟨[u], []⟩ [(x, u)])
    (sees : SqL K T a (nums.map V.int)) (okT : HOk P w T st.heap) (onlyA : ∀ b, T b ≠ none → b = a) (frz : ∀ b u, T b = some u → ∃ o xs, u = .frz o (.lst xs)) (notK : T a ≠ none → K.lookup a = none)
    (hS : S [.fz (.list (nums.map .int))] fun r => r = .fz (.bool true)) :
    codeAny (model P w) callerA (.call (.ref fa) ⟨[.ref a], []⟩) (fun r s' => r = .ok (.ret (.bool true)) ∧ OldK st.heap s'.heap ∧ s'.os = st.os ∧ AllBare s'.gens) st := by
  -- what is no list is not tracked
  have plain : ∀ {b : Addr} {o : Obj} {en : Array DictEntry} {j : Nat}, st.heap.get? b = some o → o.data = .dict en j → (hidT st.heap T).get? b = some o := by
    intro b o en j e d
    refine hidT_get e ?_
    cases tb : T b with
    | none => rfl
    | some u =>
      have eb := onlyA b (by simp [tb])
      rw [eb, obj] at e
      have eo := Option.some.inj e
      rw [← eo] at d
      cases (show Data.seq vals.toArray _ = Data.dict en j from d)
  have toNs : ∀ {b : Addr} {m : Str → Option Value}, st.heap.Ns b m → (hidT st.heap T).Ns b m := by
    rintro b m ⟨o, en, j, e, d, r⟩
    exact ⟨o, en, j, plain e d, d, r⟩
  have inB : K.In (hidT st.heap T) := by
    intro b o e
    refine hidT_get (inK b o e) ?_
    cases tb : T b with
    | none => rfl
    | some u =>
      have eb := onlyA b (by simp [tb])
      rw [eb] at e tb
      have := notK (by simp [tb])
      rw [this] at e
      cases e
  have modB : Mod K mg (hidT st.heap T) := by
    refine ⟨inB, toNs nsG, ⟨mb, toNs nsB, nsE⟩, ?_⟩
    obtain ⟨mc, l1, l2⟩ := lim
    exact ⟨mc, toNs l1, l2⟩
  have env : Env0 P w K mg (hidT st.heap T) callerA [] st T := by
    refine ⟨rfl, modB, fun b o e => of_hidT e, Nat.le_of_eq (hidT_size _ _), trivial, fun b hb => ?_, okT, .of_eq gens⟩
    cases hb
  have arg : spP K S [.ref a] T (fun v _ => v = .bl true) E0 := by
    refine ⟨[], [.fz (.list (nums.map .int))], fun r => r = .fz (.bool true), fun b hb => (nomatch hb), ?_, hS, fun v H' r same ok hr => ?_⟩
    · rw [less_nil]
      exact .cons (.lst sees (DpAll.ints nums)) .nil
    · rw [hr] at ok
      have ok' : Dp K (less H' []) v (.bool true) := ok
      cases ok'
      rfl
  apply codeAny_mono ((F _ inB (toNs nsG)).run callerA [] st T ⟨[.ref a], []⟩ [.ref a] [.ref a] _ rfl room env (bind st (.ref a)) (.cons rfl .nil) arg)
  intro r s' h
  match r, h with
  | .ok (.ret u), h =>
    obtain ⟨v, T', sos, bare, un, ok2, rv, qv⟩ := h
    have ev : v = .bl true := qv
    rw [ev] at rv
    have eu : u = Value.bool true := rv
    rw [eu]
    refine ⟨rfl, OldK.of_keep fun b o e => ?_, sos, bare⟩
    cases tb : T b with
    | none => exact un.keep b o e tb (fun z => by cases z) (by simp)
    | some t =>
      obtain ⟨ob, xs, et⟩ := frz b t tb
      rw [et] at tb
      have t2 := un.frzs b ob _ tb
      have g1 := (okT b _ tb).1
      rw [e] at g1
      rw [Option.some.inj g1]
      exact (ok2 b _ t2).1
  | .ok .next, h => exact h.elim
  | .ok .brk, h => exact h.elim
  | .ok .cont, h => exact h.elim
  | .error _, h => exact h.elim
theorem run_law {P : Program} {w : World} {K : PySem.W.Frag} {mg mb : Str → Option Value} {k : Nat} {fa a : Addr} {fd : FuncData} {x : Str} {S : SPc} {st : Shared} {vals : List Value} {nums : List Int}
    (inK : K.In st.heap) (nsG : st.heap.Ns mainGlobals mg) (nsB : st.heap.Ns builtinsNs mb) (nsE : ∀ y : Str, y ≠ "__name__" → mb y = bootBuiltins y) (lim : st.heap.NoLimit) (gens : st.gens = #[])
    (obj : st.heap.get? a = some { cls := .type "list", data := .seq vals.toArray }) (iv : IntsAre vals nums) (few : nums.length ≤ sizeLine) (room : Room k callerA) (F : ∀ b0 : Heap, K.In b0 → b0.Ns mainGlobals mg → FnG P w K mg b0 k fa fd [x] (spP K S))
    (bind : ∀ (s : Shared) (u : Value), BindsTo s fd ⟨[u], []⟩ [(x, u)]) (hS : S [.fz (.list (nums.map .int))] fun r => r = .fz (.bool true)) :
    codeAny (model P w) callerA (.call (.ref fa) ⟨[.ref a], []⟩) (fun r s' => r = .ok (.ret (.bool true)) ∧ OldK st.heap s'.heap ∧ s'.os = st.os ∧ AllBare s'.gens) st := by
  have vr := vals_ints iv
  have vl := iv.length
  by_cases hk : ∃ o, K.lookup a = some o
  · obtain ⟨o, hk⟩ := hk
    have e := inK a o hk
    rw [obj] at e
    have eo := Option.some.inj e
    rw [← eo] at hk
    refine run_at (T := fun _ => none) inK nsG nsB nsE lim gens obj room F bind (.inr ⟨_, vals.toArray, _, hk, rfl, rfl, rfl, ?_, ?_⟩) ?_ ?_ ?_ ?_ hS
    · rw [List.size_toArray, vl]
      exact few
    · simpa using vr
    · intro b u z
      cases z
    · exact fun b z => absurd rfl z
    · intro b u z
      cases z
    · exact fun z => absurd rfl z
  · have hkn : K.lookup a = none := by
      cases e : K.lookup a with
      | none => rfl
      | some o => exact absurd ⟨o, e⟩ hk
    refine run_at (T := fun b => if b = a then some (.frz { cls := .type "list", data := .seq vals.toArray } (.lst (nums.map V.int))) else none) inK nsG nsB nsE lim gens obj room F bind (.inl (.inr ⟨{ cls := .type "list", data := .seq vals.toArray }, if_pos rfl⟩)) ?_ ?_ ?_ (fun _ => hkn) hS
    · intro b u z
      by_cases hb : b = a
      · subst hb
        simp only [if_true] at z
        cases z
        exact ⟨obj, by rw [List.length_map]; exact few, vals, _, vr, obj⟩
      · simp only [if_neg hb] at z
        cases z
    · intro b z
      by_cases hb : b = a
      · exact hb
      · exact absurd (if_neg hb) z
    · intro b u z
      by_cases hb : b = a
      · simp only [if_pos hb] at z
        cases z
        exact ⟨_, _, rfl⟩
      · simp only [if_neg hb] at z
        cases z
/-- the goal that the head leaves -/
theorem walk_G {l : PySem.W.OpenLaw} {n k : Nat} {q : Program} {loose : List Str} {XP : (Str → Option Value) → Heap → Prop} {YP : World → Heap → Prop} {d : DefRec} {x : Str} (hn : l.most = some n) (hn2 : n ≤ sizeLine) (hdf : d.params.defaults = []) (room : Room k callerA)
    (F : ∀ (w : World) (mg : Str → Option Value) (fa : Addr) (h : Heap), YP w h → h.Ns mainGlobals mg → mg d.name = some (.ref fa) → ∃ (K : PySem.W.Frag) (fd : FuncData) (S : SPc), K.In h ∧ (∀ (s : Shared) (u : Value), BindsTo s fd ⟨[u], []⟩ [(x, u)]) ∧
      (∀ ns : List Int, ns.length ≤ n → S [.fz (.list (ns.map .int))] fun r => r = .fz (.bool true)) ∧ ∀ base : Heap, K.In base → base.Ns mainGlobals mg → FnG l.prog w K mg base k fa fd [x] (spP K S)) :
    PySem.W.WalkO q loose XP YP l.row.toRowW d [] (fun f vs => PySem.call f vs) := by
  apply Att.attach_call hn hdf
  intro w s₀ s₁ mg mb fa o pm cd doc a vs ns G Y ho hd hcd hmg hobj hints hlen hg
  obtain ⟨K, fd, S, inK, hb, hS, hF⟩ := F w mg fa _ Y G.T.g hmg
  exact run_law inK G.T.g G.T.b G.T.builtins G.T.nolimit hg hobj hints (Nat.le_trans hlen hn2) room hF hb (hS ns hlen)
end DC

set_option Elab.async false
set_option linter.all false
set_option maxRecDepth 100000
set_option maxHeartbeats 0
namespace K87
open PySem PySem.Spec PyProof.Rows L2 DC
abbrev theRow : PySem.W.OpenRow := PySem.W.OpenLaw.row PySem.Challenge.rw_drawnwebs_k87_first_forms_and_fewest_wat
abbrev theView : Program := PySem.W.view theRow.prog [0, 2, 3, 4, 5, 7, 8, 9, 10, 11, 13, 14, 15, 16, 17, 18, 19, 20, 22, 23, 24, 25, 27, 28, 30, 31, 32, 33, 35, 36, 37, 39, 40, 41, 42, 43, 44, 45, 46, 47, 48, 49, 50, 51, 52, 53, 54, 55, 56, 57]
abbrev theHook : PySem.W.Hook := He.hookD 6 fal fnl
def seen (s : PySem.W.SharedT) : He.AlD := He.obsDG 6 fal fnl (HandSHeadRun.getT s)
theorem seen_eq (s : PySem.W.SharedT) : seen s = theHook.obs s.abs := He.obsDG_eq (HandSHeadRun.getT_eq s)
abbrev theDef : PySem.DefRec := HandSHeadRun.topDef theRow.prog 57
theorem h_open : PySem.W.opening theRow.prog = PySem.W.plainProg theRow.prog.main.scope.names := by kernel_rfl
theorem h_fence : ∀ s, PySem.fenceModules? theRow.prog s = some s := fun s => by kernel_rfl
theorem h_def : PySem.W.defOf theView theRow.name = some (theDef, []) := by kernel_rfl
theorem h_the : theRow.prog.theDef theRow.name = some (theDef.params, theDef.body, theDef.scope) := by kernel_rfl
theorem h_kw : PySem.W.kwWritten? theDef.params.kwonlyargs theDef.params.kw_defaults = some [] := by kernel_rfl
theorem h_name : theDef.name = ("law" : PySem.Str) := by kernel_rfl
theorem top_run (w : World) : HandSHeadRun.RunEq theRow theView theHook seen 6000 [] w := by
  intro os
  kernel_rfl
end K87
open PySem PySem.W PySem.Calls PyProof.Rows
theorem K87.h_ok : (chainsOk K87.theView && opensWell K87.theRow.prog && (frees K87.theRow.toRowW && K87.theRow.within.isEmpty)) = true := by decide +kernel
theorem K87.h_wit : K87.theRow.toRowW.promised := by w_witness2
theorem K87.h_call : WalkO K87.theView [] (XL K87.theView []) K87.theHook.says K87.theRow.toRowW K87.theDef [] fun f vs => PySem.call f vs := by
  refine DC.walk_G (l := PySem.Challenge.rw_drawnwebs_k87_first_forms_and_fewest_wat) (n := 63) (k := 11) (x := "script") rfl (by decide) (by kernel_rfl) ⟨rfl, by decide, by decide⟩ ?_
  intro w mg fa h Y G hmg0
  obtain ⟨K, KX, c⟩ := Y
  have hmg : mg ("law" : PySem.Str) = some (.ref fa) := by
    rw [← K87.h_name]
    exact hmg0
  obtain ⟨M⟩ := K87.mod_of KX G c
  have ef : fa = He.ga K "law" := by
    have := hmg.symm.trans M.g_law
    injection this with this
    injection this
  subst ef
  refine ⟨K, M.fd_law, K87.S_law (He.ga K "Likeness") (He.ga K "Ties"), KX, fun s u => ?_, fun ns hl => ⟨ns, rfl, hl, rfl⟩, fun base _ _ => K87.ok_law M⟩
  exact L2.FunD.bindsA (ps := ["script"]) M.F_law (fun _ _ _ _ _ _ us hl => match us, hl with | [_], _ => rfl) s [u] rfl
theorem PySem.Challenge.cw_drawnwebs_k87_first_forms_and_fewest_wat_holds : PySem.Challenge.rw_drawnwebs_k87_first_forms_and_fewest_wat.Holds := by
  w_on; o_law
  exact HandSHeadRun.head_any (r := K87.theRow) (q := K87.theView) (H := K87.theHook) (ob := K87.seen) (M := 6000) (loose := []) (d := K87.theDef) (kwd := []) K87.seen_eq
    K87.h_open K87.h_fence K87.top_run K87.h_def K87.h_the K87.h_kw (by rfl) (by first | assumption | decide +kernel) K87.h_ok ⟨rfl, rfl, rfl, rfl, rfl, by decide +kernel⟩ K87.h_wit K87.h_call
