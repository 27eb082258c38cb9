import PyProof.Rows.All
import HandS.Exc
import HandS.ExcOwn
import HandS.ExcIs
import HandS.TryOnly
import HandS.Lambda
import HandS.EndTab
import HandS.ForMost
import HandS.Deep
import HandS.IsInst
import HandS.Wide
import HandS.Style
import KE.SortData
import KE.DataCmp
import HandS.TupLe
import HandS.Conv
import PyProof.SumAny
import KE.KDictCopyH
import HandS.More
import HandS.DictSubView
import PyProof.ReprRoads
import PySem.Challenge.RW_restturns_k10_refused_tables
set_option Elab.async false
set_option linter.all false
set_option maxRecDepth 100000
namespace L3
open PySem PySem.Spec PyProof.Rows L2
/-- data, as trees -/
inductive D where
  | non | bl (b : Bool) | int (i : Int) | str (x : Str) | ty (n : String) | at (a : Addr)
  | lst (ds : List D) | tup (ds : List D) | obj (C : Addr) (fs : List (Str × D)) | dic (kvs : List (Key × D))
  | wit (H0 : Hp) (i : Int) | frT (H0 : Hp) (t : List (List Int)) | dicL (kvs : List (Key × D))
/-- data with the nodes that are nobody else's -/
inductive T where
  | sh (d : D) | lst (ts : List T) | obj (C : Addr) (fs : List (Str × T)) | dic (kvs : List (Key × D)) | regT (ts : List (List (List Int)))
/-- a row, a table, tables: as they lie -/
noncomputable def RowAt (H : Hp) (v : V) (r : List Int) : Prop := ∃ a, v = .ref a ∧ H a = some (.lst (r.map V.int))
inductive RowsAt (H : Hp) : List V → List (List Int) → Prop
  | nil : RowsAt H [] []
  | cons {v : V} {vs : List V} {r : List Int} {rs : List (List Int)} : RowAt H v r → RowsAt H vs rs → RowsAt H (v :: vs) (r :: rs)
noncomputable def TabAt (H : Hp) (v : V) (t : List (List Int)) : Prop := ∃ a vs, v = .ref a ∧ H a = some (.lst vs) ∧ RowsAt H vs t
inductive TabsAt (H : Hp) : List V → List (List (List Int)) → Prop
  | nil : TabsAt H [] []
  | cons {v : V} {vs : List V} {t : List (List Int)} {ts : List (List (List Int))} : TabAt H v t → TabsAt H vs ts → TabsAt H (v :: vs) (t :: ts)
/-- the heap without another one's addresses; with some addresses alone -/
noncomputable def hid (H0 H : Hp) : Hp := fun b => if (H0 b).isSome = true then none else H b
noncomputable def only (F : List Addr) (H : Hp) : Hp := fun b => if b ∈ F then H b else none
/-- all that is there is there -/
noncomputable def Dom (H0 H : Hp) : Prop := ∀ b o, H0 b = some o → ∃ o', H b = some o'
theorem RowAt.sm {H H' : Hp} (e : Same H H') {v : V} {r : List Int} (h : RowAt H v r) : RowAt H' v r := by
  obtain ⟨a, h1, h2⟩ := h
  exact ⟨a, h1, e _ _ h2⟩
theorem RowsAt.sm {H H' : Hp} (e : Same H H') : ∀ {vs : List V} {rs : List (List Int)}, RowsAt H vs rs → RowsAt H' vs rs
  | _, _, .nil => .nil
  | _, _, .cons h k => .cons (h.sm e) (RowsAt.sm e k)
theorem TabAt.sm {H H' : Hp} (e : Same H H') {v : V} {t : List (List Int)} (h : TabAt H v t) : TabAt H' v t := by
  obtain ⟨a, vs, h1, h2, h3⟩ := h
  exact ⟨a, vs, h1, e _ _ h2, h3.sm e⟩
theorem TabsAt.sm {H H' : Hp} (e : Same H H') : ∀ {vs : List V} {ts : List (List (List Int))}, TabsAt H vs ts → TabsAt H' vs ts
  | _, _, .nil => .nil
  | _, _, .cons h k => .cons (h.sm e) (TabsAt.sm e k)
theorem hid_sm {H0 H H' : Hp} (e : Same H H') : Same (hid H0 H) (hid H0 H') := fun b o q => by
  unfold hid at q ⊢
  by_cases z : (H0 b).isSome = true
  · rw [if_pos z] at q
    cases q
  · rw [if_neg z] at q ⊢
    exact e _ _ q
theorem hid_le {H0 H : Hp} : Same (hid H0 H) H := fun b o q => by
  unfold hid at q
  by_cases z : (H0 b).isSome = true
  · rw [if_pos z] at q
    cases q
  · rw [if_neg z] at q
    exact q
theorem only_in {F : List Addr} {H : Hp} {b : Addr} {o : HO} (q : only F H b = some o) : b ∈ F ∧ H b = some o := by
  unfold only at q
  by_cases z : b ∈ F
  · rw [if_pos z] at q
    exact ⟨z, q⟩
  · rw [if_neg z] at q
    cases q
theorem only_sm {F : List Addr} {H H' : Hp} (k : ∀ a ∈ F, ∀ o, H a = some o → H' a = some o) : Same (only F H) (only F H') := fun b o q => by
  obtain ⟨h1, h2⟩ := only_in q
  unfold only
  rw [if_pos h1]
  exact k b h1 o h2
theorem only_to {F : List Addr} {H R : Hp} (k : ∀ a ∈ F, ∀ o, H a = some o → R a = some o) : Same (only F H) R := fun b o q => k b (only_in q).1 o (only_in q).2
theorem Dom.sm {H0 H H' : Hp} (e : Same H H') (h : Dom H0 H) : Dom H0 H' := fun b o q => by
  obtain ⟨o', q'⟩ := h b o q
  exact ⟨o', e _ _ q'⟩
mutual
inductive Rp (K : PySem.W.Frag) (H : Hp) : V → D → Prop
  | non : Rp K H .non .non
  | bl (b : Bool) : Rp K H (.bl b) (.bl b)
  | int (i : Int) : Rp K H (.int i) (.int i)
  | str (x : Str) : Rp K H (.str x) (.str x)
  | ty (n : String) : Rp K H (.ty n) (.ty n)
  | at (a : Addr) : Rp K H (.ref a) (.at a)
  | lst {a : Addr} {xs : List V} {ds : List D} : H a = some (.lst xs) → Rps K H xs ds → Rp K H (.ref a) (.lst ds)
  | tup {a : Addr} {xs : List V} {ds : List D} : SqT K H a xs → Rps K H xs ds → Rp K H (.ref a) (.tup ds)
  | obj {a C dx : Addr} {xs : List (Str × V)} {ds : List (Str × D)} : H a = some (.ins C dx xs) → Rpf K H xs ds → Rp K H (.ref a) (.obj C ds)
  | dic {a : Addr} {xs : List (Key × V)} {ds : List (Key × D)} : H a = some (.dK xs) → Rpk K H xs ds → Rp K H (.ref a) (.dic ds)
  | wit {H0 : Hp} {i : Int} : Dom H0 H → Rp K H (.int i) (.wit H0 i)
  | dicL {a : Addr} {o : Obj} {xs : List (Key × V)} {ds : List (Key × D)} : H a = some (.frz o (.dK xs)) → Rpk K H xs ds → Rp K H (.ref a) (.dicL ds)
  | frT {H0 : Hp} {v : V} {t : List (List Int)} : Dom H0 H → TabAt (hid H0 H) v t → Rp K H v (.frT H0 t)
inductive Rps (K : PySem.W.Frag) (H : Hp) : List V → List D → Prop
  | nil : Rps K H [] []
  | cons {v : V} {vs : List V} {d : D} {ds : List D} : Rp K H v d → Rps K H vs ds → Rps K H (v :: vs) (d :: ds)
inductive Rpf (K : PySem.W.Frag) (H : Hp) : List (Str × V) → List (Str × D) → Prop
  | nil : Rpf K H [] []
  | cons {n : Str} {v : V} {vs : List (Str × V)} {d : D} {ds : List (Str × D)} : Rp K H v d → Rpf K H vs ds → Rpf K H ((n, v) :: vs) ((n, d) :: ds)
inductive Rpk (K : PySem.W.Frag) (H : Hp) : List (Key × V) → List (Key × D) → Prop
  | nil : Rpk K H [] []
  | cons {n : Key} {v : V} {vs : List (Key × V)} {d : D} {ds : List (Key × D)} : Rp K H v d → Rpk K H vs ds → Rpk K H ((n, v) :: vs) ((n, d) :: ds)
end
mutual
/-- R: what is shared; H: the heap; the last: the addresses of the own nodes -/
inductive RT (K : PySem.W.Frag) (R H : Hp) : V → T → List Addr → Prop
  | sh {v : V} {d : D} : Rp K R v d → RT K R H v (.sh d) []
  | lst {a : Addr} {vs : List V} {ts : List T} {F : List Addr} : H a = some (.lst vs) → RTs K R H vs ts F → RT K R H (.ref a) (.lst ts) (a :: F)
  | obj {a C dx : Addr} {vs : List (Str × V)} {ts : List (Str × T)} {F : List Addr} : H a = some (.ins C dx vs) → RTf K R H vs ts F → RT K R H (.ref a) (.obj C ts) (a :: F)
  | dic {a : Addr} {vs : List (Key × V)} {ds : List (Key × D)} : H a = some (.dK vs) → Rpk K R vs ds → RT K R H (.ref a) (.dic ds) [a]
  | regT {a : Addr} {vs : List V} {ts : List (List (List Int))} {F : List Addr} : only F H a = some (.lst vs) → TabsAt (only F H) vs ts → (∀ b ∈ F, ∃ o, H b = some o) → RT K R H (.ref a) (.regT ts) F
inductive RTs (K : PySem.W.Frag) (R H : Hp) : List V → List T → List Addr → Prop
  | nil : RTs K R H [] [] []
  | cons {v : V} {vs : List V} {t : T} {ts : List T} {F G : List Addr} : RT K R H v t F → RTs K R H vs ts G → RTs K R H (v :: vs) (t :: ts) (F ++ G)
inductive RTf (K : PySem.W.Frag) (R H : Hp) : List (Str × V) → List (Str × T) → List Addr → Prop
  | nil : RTf K R H [] [] []
  | cons {n : Str} {v : V} {vs : List (Str × V)} {t : T} {ts : List (Str × T)} {F G : List Addr} : RT K R H v t F → RTf K R H vs ts G → RTf K R H ((n, v) :: vs) ((n, t) :: ts) (F ++ G)
end
mutual
noncomputable def T.er : T → D
  | .sh d => d
  | .lst ts => .lst (T.ers ts)
  | .obj C ts => .obj C (T.erf ts)
  | .dic ds => .dic ds
  | .regT ts => .lst (ts.map fun t => .lst (t.map fun r => .lst (r.map D.int)))
noncomputable def T.ers : List T → List D
  | [] => []
  | t :: ts => t.er :: T.ers ts
noncomputable def T.erf : List (Str × T) → List (Str × D)
  | [] => []
  | (n, t) :: ts => (n, t.er) :: T.erf ts
end
section
variable {K : PySem.W.Frag} {H H' R R' : Hp}
theorem SqT.sm {a : Addr} {xs : List V} (e : Same H H') (h : SqT K H a xs) : SqT K H' a xs := by
  rcases h with (h | ⟨o, h⟩) | h
  · exact .inl (.inl (e _ _ h))
  · exact .inl (.inr ⟨o, e _ _ h⟩)
  · exact .inr h
mutual
theorem Rp.sm (e : Same H H') : ∀ {v : V} {d : D}, Rp K H v d → Rp K H' v d
  | _, _, .non => .non
  | _, _, .bl b => .bl b
  | _, _, .int b => .int b
  | _, _, .str b => .str b
  | _, _, .ty b => .ty b
  | _, _, .at b => .at b
  | _, _, .lst h r => .lst (e _ _ h) (Rps.sm e r)
  | _, _, .tup h r => .tup (SqT.sm e h) (Rps.sm e r)
  | _, _, .obj h r => .obj (e _ _ h) (Rpf.sm e r)
  | _, _, .dic h r => .dic (e _ _ h) (Rpk.sm e r)
  | _, _, .wit h => .wit (h.sm e)
  | _, _, .dicL h r => .dicL (e _ _ h) (Rpk.sm e r)
  | _, _, .frT h r => .frT (h.sm e) (r.sm (hid_sm e))
theorem Rps.sm (e : Same H H') : ∀ {v : List V} {d : List D}, Rps K H v d → Rps K H' v d
  | _, _, .nil => .nil
  | _, _, .cons h r => .cons (Rp.sm e h) (Rps.sm e r)
theorem Rpf.sm (e : Same H H') : ∀ {v : List (Str × V)} {d : List (Str × D)}, Rpf K H v d → Rpf K H' v d
  | _, _, .nil => .nil
  | _, _, .cons h r => .cons (Rp.sm e h) (Rpf.sm e r)
theorem Rpk.sm (e : Same H H') : ∀ {v : List (Key × V)} {d : List (Key × D)}, Rpk K H v d → Rpk K H' v d
  | _, _, .nil => .nil
  | _, _, .cons h r => .cons (Rp.sm e h) (Rpk.sm e r)
end
/-- the own nodes stay -/
noncomputable def Keep (F : List Addr) (H H' : Hp) : Prop := ∀ a ∈ F, ∀ o, H a = some o → H' a = some o
theorem Keep.of (e : Same H H') {F : List Addr} : Keep F H H' := fun a _ o h => e a o h
mutual
theorem RT.sm (e : Same R R') : ∀ {v : V} {t : T} {F : List Addr}, RT K R H v t F → Keep F H H' → RT K R' H' v t F
  | _, _, _, .sh h, _ => .sh (h.sm e)
  | _, _, _, .lst h r, k => .lst (k _ (List.mem_cons_self ..) _ h) (RTs.sm e r fun a ha => k a (List.mem_cons_of_mem _ ha))
  | _, _, _, .obj h r, k => .obj (k _ (List.mem_cons_self ..) _ h) (RTf.sm e r fun a ha => k a (List.mem_cons_of_mem _ ha))
  | _, _, _, .dic h r, k => .dic (k _ (List.mem_cons_self ..) _ h) (r.sm e)
  | _, _, _, .regT h r fs, k => .regT (only_sm k _ _ h) (r.sm (only_sm k)) fun b hb => by
    obtain ⟨o, q⟩ := fs b hb
    exact ⟨o, k b hb o q⟩
theorem RTs.sm (e : Same R R') : ∀ {v : List V} {t : List T} {F : List Addr}, RTs K R H v t F → Keep F H H' → RTs K R' H' v t F
  | _, _, _, .nil, _ => .nil
  | _, _, _, .cons h r, k => .cons (RT.sm e h fun a ha => k a (List.mem_append_left _ ha)) (RTs.sm e r fun a ha => k a (List.mem_append_right _ ha))
theorem RTf.sm (e : Same R R') : ∀ {v : List (Str × V)} {t : List (Str × T)} {F : List Addr}, RTf K R H v t F → Keep F H H' → RTf K R' H' v t F
  | _, _, _, .nil, _ => .nil
  | _, _, _, .cons h r, k => .cons (RT.sm e h fun a ha => k a (List.mem_append_left _ ha)) (RTf.sm e r fun a ha => k a (List.mem_append_right _ ha))
end
theorem ints_rp {K : PySem.W.Frag} {H : Hp} : ∀ r : List Int, Rps K H (r.map V.int) (r.map D.int)
  | [] => .nil
  | x :: r => .cons (.int x) (ints_rp r)
theorem rows_rp {K : PySem.W.Frag} {H : Hp} : ∀ {vs : List V} {rs : List (List Int)}, RowsAt H vs rs → Rps K H vs (rs.map fun r => .lst (r.map D.int))
  | _, _, .nil => .nil
  | _, _, .cons ⟨a, e, h⟩ k => e ▸ .cons (.lst h (ints_rp _)) (rows_rp k)
theorem tab_rp {K : PySem.W.Frag} {H : Hp} {v : V} {t : List (List Int)} (h : TabAt H v t) : Rp K H v (.lst (t.map fun r => .lst (r.map D.int))) := by
  obtain ⟨a, vs, e, h1, h2⟩ := h
  exact e ▸ .lst h1 (rows_rp h2)
theorem tabs_rp {K : PySem.W.Frag} {H : Hp} : ∀ {vs : List V} {ts : List (List (List Int))}, TabsAt H vs ts → Rps K H vs (ts.map fun t => .lst (t.map fun r => .lst (r.map D.int)))
  | _, _, .nil => .nil
  | _, _, .cons h k => .cons (tab_rp h) (tabs_rp k)
mutual
theorem RT.rp (e : Same R R') : ∀ {v : V} {t : T} {F : List Addr}, RT K R H v t F → Keep F H R' → Rp K R' v t.er
  | _, _, _, .sh h, _ => h.sm e
  | _, _, _, .lst h r, k => .lst (k _ (List.mem_cons_self ..) _ h) (RTs.rp e r fun a ha => k a (List.mem_cons_of_mem _ ha))
  | _, _, _, .obj h r, k => .obj (k _ (List.mem_cons_self ..) _ h) (RTf.rp e r fun a ha => k a (List.mem_cons_of_mem _ ha))
  | _, _, _, .dic h r, k => .dic (k _ (List.mem_cons_self ..) _ h) (r.sm e)
  | _, _, _, .regT h r _, k => .lst (only_to k _ _ h) (tabs_rp (r.sm (only_to k)))
theorem RTs.rp (e : Same R R') : ∀ {v : List V} {t : List T} {F : List Addr}, RTs K R H v t F → Keep F H R' → Rps K R' v (T.ers t)
  | _, _, _, .nil, _ => .nil
  | _, _, _, .cons h r, k => .cons (RT.rp e h fun a ha => k a (List.mem_append_left _ ha)) (RTs.rp e r fun a ha => k a (List.mem_append_right _ ha))
theorem RTf.rp (e : Same R R') : ∀ {v : List (Str × V)} {t : List (Str × T)} {F : List Addr}, RTf K R H v t F → Keep F H R' → Rpf K R' v (T.erf t)
  | _, _, _, .nil, _ => .nil
  | _, _, _, .cons h r, k => .cons (RT.rp e h fun a ha => k a (List.mem_append_left _ ha)) (RTf.rp e r fun a ha => k a (List.mem_append_right _ ha))
end
mutual
theorem RT.fs : ∀ {v : V} {t : T} {F : List Addr}, RT K R H v t F → ∀ a ∈ F, ∃ o, H a = some o
  | _, _, _, .sh _, a, ha => nomatch ha
  | _, _, _, .lst h r, a, ha => (List.mem_cons.mp ha).elim (fun e => e ▸ ⟨_, h⟩) fun k => RTs.fs r a k
  | _, _, _, .obj h r, a, ha => (List.mem_cons.mp ha).elim (fun e => e ▸ ⟨_, h⟩) fun k => RTf.fs r a k
  | _, _, _, .dic h r, a, ha => (List.mem_cons.mp ha).elim (fun e => e ▸ ⟨_, h⟩) fun k => nomatch k
  | _, _, _, .regT _ _ fs, a, ha => fs a ha
theorem RTs.fs : ∀ {v : List V} {t : List T} {F : List Addr}, RTs K R H v t F → ∀ a ∈ F, ∃ o, H a = some o
  | _, _, _, .nil, a, ha => nomatch ha
  | _, _, _, .cons h r, a, ha => (List.mem_append.mp ha).elim (RT.fs h a) (RTs.fs r a)
theorem RTf.fs : ∀ {v : List (Str × V)} {t : List (Str × T)} {F : List Addr}, RTf K R H v t F → ∀ a ∈ F, ∃ o, H a = some o
  | _, _, _, .nil, a, ha => nomatch ha
  | _, _, _, .cons h r, a, ha => (List.mem_append.mp ha).elim (RT.fs h a) (RTf.fs r a)
end
/-- the heap without some addresses -/
noncomputable def del (F : List Addr) (H : Hp) : Hp := fun b => if b ∈ F then none else H b
theorem del_out {F : List Addr} {b : Addr} (h : b ∉ F) : del F H b = H b := by unfold del; rw [if_neg h]
theorem del_in {F : List Addr} {b : Addr} (h : b ∈ F) : del F H b = none := by unfold del; rw [if_pos h]
theorem del_some {F : List Addr} {b : Addr} {o : HO} (h : del F H b = some o) : b ∉ F ∧ H b = some o := by
  unfold del at h
  split at h
  · cases h
  · exact ⟨by assumption, h⟩
theorem del_nil : del [] H = H := by funext b; exact del_out (by simp)
theorem del_le {F : List Addr} : Same (del F H) H := fun b o h => (del_some h).2
theorem del_sm {F : List Addr} (e : Same H H') : Same (del F H) (del F H') := fun b o h => by
  obtain ⟨h1, h2⟩ := del_some h
  rw [del_out h1]
  exact e _ _ h2
theorem del_sub {F G : List Addr} (h : ∀ a ∈ G, a ∈ F) : Same (del F H) (del G H) := fun b o q => by
  obtain ⟨h1, h2⟩ := del_some q
  rw [del_out fun z => h1 (h b z)]
  exact h2
/-- fresh addresses besides -/
theorem del_new {F G : List Addr} (e : Same H H') (h : ∀ a ∈ G, a ∈ F ∨ H a = none) : Same (del F H) (del G H') := fun b o q => by
  obtain ⟨h1, h2⟩ := del_some q
  rw [del_out fun z => (h b z).elim h1 fun n => by rw [n] at h2; cases h2]
  exact e _ _ h2
end
/-- the slots' trees -/
noncomputable abbrev Rho := List (Option T)
/-- the slots hold them -/
inductive RO (K : PySem.W.Frag) (R H : Hp) : L2.St → Rho → List Addr → Prop
  | nil : RO K R H [] [] []
  | no {o : Option V} {σ : L2.St} {ρ : Rho} {G : List Addr} : RO K R H σ ρ G → RO K R H (o :: σ) (none :: ρ) G
  | yes {v : V} {t : T} {σ : L2.St} {ρ : Rho} {F G : List Addr} : RT K R H v t F → RO K R H σ ρ G → RO K R H (some v :: σ) (some t :: ρ) (F ++ G)
/-- the state: own nodes F, nobody's but others' nodes G, no address twice -/
structure S3 (K : PySem.W.Frag) (G : List Addr) (σ : L2.St) (H : Hp) (ρ : Rho) (F : List Addr) : Prop where
  ro : RO K (del (F ++ G) H) H σ ρ F
  nd : (F ++ G).Nodup
  gs : ∀ a ∈ G, ∃ o, H a = some o
section
variable {K : PySem.W.Frag} {H H' R R' : Hp} {σ : L2.St} {ρ : Rho} {F G : List Addr}
theorem RO.sm (e : Same R R') (h : RO K R H σ ρ F) (k : Keep F H H') : RO K R' H' σ ρ F := by
  induction h with
  | nil => exact .nil
  | no _ ih => exact .no (ih k)
  | yes r _ ih => exact .yes (r.sm e fun a ha => k a (List.mem_append_left _ ha)) (ih fun a ha => k a (List.mem_append_right _ ha))
theorem RO.fs (h : RO K R H σ ρ F) : ∀ a ∈ F, ∃ o, H a = some o := by
  induction h with
  | nil => intro a ha; cases ha
  | no _ ih => exact ih
  | yes r _ ih => intro a ha; exact (List.mem_append.mp ha).elim (r.fs a) (ih a)
theorem RO.len (h : RO K R H σ ρ F) : σ.length = ρ.length := by
  induction h with
  | nil => rfl
  | no _ ih => rw [List.length_cons, List.length_cons, ih]
  | yes r _ ih => rw [List.length_cons, List.length_cons, ih]
/-- the i-th slot, and the others -/
theorem RO.get (h : RO K R H σ ρ F) : ∀ {i : Nat} {t : T}, ρ[i]? = some (some t) → ∃ v F1 F2 F3, σ[i]? = some (some v) ∧ RT K R H v t F2 ∧ F = F1 ++ (F2 ++ F3) ∧
    ∀ (w : V) (R' H' : Hp) (u : T) (F2' : List Addr), Same R R' → Keep (F1 ++ F3) H H' → RT K R' H' w u F2' → RO K R' H' (σ.set i (some w)) (ρ.set i (some u)) (F1 ++ (F2' ++ F3)) := by
  induction h with
  | nil => intro i t e; simp at e
  | @no o σ ρ G h ih =>
    intro i t e
    cases i with
    | zero => simp at e
    | succ i =>
      obtain ⟨v, F1, F2, F3, e1, r, e2, f⟩ := ih (by simpa using e)
      exact ⟨v, F1, F2, F3, by simpa using e1, r, e2, fun w R' H' u F2' s k r' => .no (f w R' H' u F2' s k r')⟩
  | @yes v t σ ρ F G r h ih =>
    intro i t' e
    cases i with
    | zero =>
      simp at e
      subst e
      refine ⟨v, [], F, G, rfl, r, rfl, fun w R' H' u F2' s k r' => ?_⟩
      show RO K R' H' (some w :: σ) (some u :: ρ) (F2' ++ G)
      exact .yes r' (h.sm s k)
    | succ i =>
      obtain ⟨v', F1, F2, F3, e1, r1, e2, f⟩ := ih (by simpa using e)
      refine ⟨v', F ++ F1, F2, F3, by simpa using e1, r1, by rw [e2, List.append_assoc], fun w R' H' u F2' s k r' => ?_⟩
      rw [List.append_assoc]
      refine .yes (r.sm s fun a ha => k a ?_) (f w R' H' u F2' s (fun a ha => k a ?_) r')
      · exact List.mem_append_left _ (List.mem_append_left _ ha)
      · rw [List.append_assoc]; exact List.mem_append_right _ ha
/-- a slot's tree is dropped, another one stored -/
theorem RO.put (h : RO K R H σ ρ F) : ∀ (i : Nat), i < ρ.length → ∃ F1 F2 F3, F = F1 ++ (F2 ++ F3) ∧
    ∀ (w : Option V) (R' H' : Hp) (u : Option T) (F2' : List Addr), Same R R' → Keep (F1 ++ F3) H H' → (match w, u with | some w, some u => RT K R' H' w u F2' | _, none => F2' = [] | _, _ => False) → RO K R' H' (σ.set i w) (ρ.set i u) (F1 ++ (F2' ++ F3)) := by
  induction h with
  | nil => intro i e; simp at e
  | @no o σ ρ G h ih =>
    intro i e
    cases i with
    | zero =>
      refine ⟨[], [], G, rfl, fun w R' H' u F2' s k r' => ?_⟩
      cases u with
      | none =>
        have : F2' = [] := by cases w <;> exact r'
        subst this
        exact .no (h.sm s k)
      | some u =>
        cases w with
        | none => exact r'.elim
        | some w =>
          show RO K R' H' (some w :: σ) (some u :: ρ) (F2' ++ G)
          exact .yes r' (h.sm s k)
    | succ i =>
      obtain ⟨F1, F2, F3, e2, f⟩ := ih i (by simpa using e)
      exact ⟨F1, F2, F3, e2, fun w R' H' u F2' s k r' => .no (f w R' H' u F2' s k r')⟩
  | @yes v t σ ρ F G r h ih =>
    intro i e
    cases i with
    | zero =>
      refine ⟨[], F, G, rfl, fun w R' H' u F2' s k r' => ?_⟩
      cases u with
      | none =>
        have : F2' = [] := by cases w <;> exact r'
        subst this
        exact .no (h.sm s k)
      | some u =>
        cases w with
        | none => exact r'.elim
        | some w =>
          show RO K R' H' (some w :: σ) (some u :: ρ) (F2' ++ G)
          exact .yes r' (h.sm s k)
    | succ i =>
      obtain ⟨F1, F2, F3, e2, f⟩ := ih i (by simpa using e)
      refine ⟨F ++ F1, F2, F3, by rw [e2, List.append_assoc], fun w R' H' u F2' s k r' => ?_⟩
      rw [List.append_assoc]
      refine .yes (r.sm s fun a ha => k a ?_) (f w R' H' u F2' s (fun a ha => k a ?_) r')
      · exact List.mem_append_left _ (List.mem_append_left _ ha)
      · rw [List.append_assoc]; exact List.mem_append_right _ ha
/-- the heap has grown -/
theorem S3.sm (h : S3 K G σ H ρ F) (e : Same H H') : S3 K G σ H' ρ F :=
  ⟨h.ro.sm (del_sm e) (.of e), h.nd, fun a ha => let ⟨o, q⟩ := h.gs a ha; ⟨o, e a o q⟩⟩
theorem S3.fs (h : S3 K G σ H ρ F) : ∀ a ∈ F ++ G, ∃ o, H a = some o := fun a ha => (List.mem_append.mp ha).elim (h.ro.fs a) (h.gs a)
end
/-! ### the best reading -/
structure best (X : Cx) (e : Expr) (σ : L2.St) (H : Hp) (Q : VK) : Prop where
  run : ∀ (pins : List (Addr × Obj)) (s : Shared), Inv X pins σ H s → wpAny (model X.prog X.w) X.A (eval e X.env) (EP X pins σ Q) X.xe s
theorem pe_best {X : Cx} {e : Expr} : PE X e (best X e) := ⟨fun pins s σ H Q I h => h.run pins s I⟩
theorem best.of {X : Cx} {e : Expr} {t : TE} (h : PE X e t) {σ : L2.St} {H : Hp} {Q : VK} (q : t σ H Q) : best X e σ H Q := ⟨fun pins s I => h.run pins s σ H Q I q⟩
structure bestA (X : Cx) (es : List Expr) (σ : L2.St) (H : Hp) (Q : List V → Hp → Prop) : Prop where
  run : ∀ (pos : Pos) (pins : List (Addr × Obj)) (s : Shared), Inv X pins σ H s → wpAny (model X.prog X.w) X.A (spliced (backTo pos (starEach es X.env))) (AP X pins σ Q) X.xe s
theorem pa_best {X : Cx} {es : List Expr} : PA X es (bestA X es) := ⟨fun pos pins s σ H Q I h => h.run pos pins s I⟩
theorem bestA.of {X : Cx} {es : List Expr} {t : TA} (h : PA X es t) {σ : L2.St} {H : Hp} {Q : List V → Hp → Prop} (q : t σ H Q) : bestA X es σ H Q := ⟨fun pos pins s I => h.run pos pins s σ H Q I q⟩
structure bestT (X : Cx) (e : Expr) (σ : L2.St) (H : Hp) (Q : Bool → Hp → Prop) : Prop where
  run : ∀ (pins : List (Addr × Obj)) (s : Shared), Inv X pins σ H s → wpAny (model X.prog X.w) X.A (isTrue e X.env (eval e X.env)) (TP X pins σ Q) X.xe s
theorem pt_best {X : Cx} {e : Expr} : PT X e (bestT X e) := ⟨fun pins s σ H Q I h => h.run pins s I⟩
theorem bestT.of {X : Cx} {e : Expr} {t : TT} (h : PT X e t) {σ : L2.St} {H : Hp} {Q : Bool → Hp → Prop} (q : t σ H Q) : bestT X e σ H Q := ⟨fun pins s I => h.run pins s σ H Q I q⟩
/-! ### what an expression gives -/
/-- own nodes E are new; all else that the rest knows is shared -/
structure Res (K : PySem.W.Frag) (N : List Addr) (H H' : Hp) (v : V) (t : T) (E : List Addr) : Prop where
  sm : Same H H'
  fr : ∀ a ∈ E, H a = none
  nd : E.Nodup
  rt : RT K (del (E ++ N) H') H' v t E
structure ResA (K : PySem.W.Frag) (N : List Addr) (H H' : Hp) (v : List V) (t : List T) (E : List Addr) : Prop where
  sm : Same H H'
  fr : ∀ a ∈ E, H a = none
  nd : E.Nodup
  rt : RTs K (del (E ++ N) H') H' v t E
/-- a fresh, owned tree -/
noncomputable def Ev (X : Cx) (ρ : Rho) (e : Expr) (t : T) : Prop := ∀ (σ : L2.St) (H : Hp) (F G : List Addr) (Q : VK), S3 X.K G σ H ρ F → (∀ v H' E, Res X.K (F ++ G) H H' v t E → Q v H') → best X e σ H Q
/-- data to look at -/
noncomputable def Rd (X : Cx) (ρ : Rho) (e : Expr) (d : D) : Prop := ∀ (σ : L2.St) (H : Hp) (F G : List Addr) (Q : VK), S3 X.K G σ H ρ F → (∀ v H', Same H H' → Rp X.K H' v d → Q v H') → best X e σ H Q
noncomputable def EvA (X : Cx) (ρ : Rho) (es : List Expr) (ts : List T) : Prop := ∀ (σ : L2.St) (H : Hp) (F G : List Addr) (Q : List V → Hp → Prop), S3 X.K G σ H ρ F → (∀ v H' E, ResA X.K (F ++ G) H H' v ts E → Q v H') → bestA X es σ H Q
noncomputable def RdA (X : Cx) (ρ : Rho) (es : List Expr) (ds : List D) : Prop := ∀ (σ : L2.St) (H : Hp) (F G : List Addr) (Q : List V → Hp → Prop), S3 X.K G σ H ρ F → (∀ v H', Same H H' → Rps X.K H' v ds → Q v H') → bestA X es σ H Q
/-- a test -/
noncomputable def Te (X : Cx) (ρ : Rho) (e : Expr) (b : Bool) : Prop := ∀ (σ : L2.St) (H : Hp) (F G : List Addr) (Q : Bool → Hp → Prop), S3 X.K G σ H ρ F → (∀ H', Same H H' → Q b H') → bestT X e σ H Q
section
variable {K : PySem.W.Frag} {H H' H1 H2 : Hp} {N E : List Addr} {v : V} {t : T}
theorem Res.rp (h : Res K N H H' v t E) : Rp K H' v t.er := h.rt.rp del_le fun a _ o q => q
/-- what is new is no one's -/
theorem Res.freeze (h : Res K N H H' v t E) (hn : ∀ a ∈ N, ∃ o, H a = some o) : Res K N H H' v (.sh t.er) [] := by
  refine ⟨h.sm, (fun a z => nomatch z), List.nodup_nil, .sh ?_⟩
  refine h.rt.rp (del_sub fun a ha => List.mem_append_right _ ha) fun a ha o q => ?_
  refine (del_out fun z => ?_).trans q
  obtain ⟨o, e⟩ := hn a z
  rw [h.fr a ha] at e
  cases e
theorem Res.mono (h : Res K N H1 H' v t E) (e : Same H H1) : Res K N H H' v t E := ⟨e.trans h.sm, fun a ha => e.free (h.fr a ha), h.nd, h.rt⟩
/-- own nodes and the others' lie apart -/
theorem apart (hn : ∀ a ∈ N, ∃ o, H a = some o) (hE : ∀ a ∈ E, H a = none) : ∀ a ∈ E, a ∉ N := fun a ha z => by
  obtain ⟨o, e⟩ := hn a z
  rw [hE a ha] at e
  cases e
/-- the first result stays behind the second one's making -/
theorem RT.keep {E2 : List Addr} (h : RT K (del (E ++ N) H1) H1 v t E) (e : Same H1 H2) (f : ∀ a ∈ E2, H1 a = none) : RT K (del (E ++ (E2 ++ N)) H2) H2 v t E :=
  h.sm (del_new e fun a ha => by
    rcases List.mem_append.mp ha with z | z
    · exact .inl (List.mem_append_left _ z)
    · rcases List.mem_append.mp z with z | z
      · exact .inr (f a z)
      · exact .inl (List.mem_append_right _ z)) (.of e)
theorem RT.less {R R' : Hp} {F : List Addr} (h : RT K R H v t F) (e : Same R R') : RT K R' H v t F := h.sm e fun a _ o q => q
theorem RTs.less {R R' : Hp} {F : List Addr} {v : List V} {t : List T} (h : RTs K R H v t F) (e : Same R R') : RTs K R' H v t F := h.sm e fun a _ o q => q
end
section
variable {X : Cx} {ρ : Rho} {e a b : Expr} {es : List Expr} {t : T} {d : D} {pos : Pos}
theorem Ev.rd (h : Ev X ρ e t) : Rd X ρ e t.er := fun σ H F G Q S k => h σ H F G Q S fun v H' E r => k v H' r.sm r.rp
theorem Ev.rd' (h : Ev X ρ e t) (q : t.er = d) : Rd X ρ e d := q ▸ h.rd
theorem Ev.fz (h : Ev X ρ e t) : Ev X ρ e (.sh t.er) := fun σ H F G Q S k => h σ H F G Q S fun v H' E r => k v H' [] (r.freeze S.fs)
theorem Ev.fz' (h : Ev X ρ e t) (q : t.er = d) : Ev X ρ e (.sh d) := q ▸ h.fz
/-- data that is nowhere in the heap -/
noncomputable def Sc : D → Prop
  | .non => True | .bl _ => True | .int _ => True | .str _ => True | .ty _ => True | .at _ => True | _ => False
theorem Sc.rp {K : PySem.W.Frag} {H H' : Hp} {v : V} {d : D} (h : Rp K H v d) (s : Sc d) : Rp K H' v d := by
  cases h with
  | non => exact .non
  | bl b => exact .bl b
  | int b => exact .int b
  | str b => exact .str b
  | ty b => exact .ty b
  | «at» b => exact .at b
  | lst _ _ => exact s.elim
  | tup _ _ => exact s.elim
  | obj _ _ => exact s.elim
  | dic _ _ => exact s.elim
  | wit _ => exact s.elim
  | dicL _ _ => exact s.elim
  | frT _ _ => exact s.elim
theorem Rd.ev (h : Rd X ρ e d) (s : Sc d) : Ev X ρ e (.sh d) := fun σ H F G Q S k => h σ H F G Q S fun v H' sm r => k v H' [] ⟨sm, (fun a z => nomatch z), List.nodup_nil, .sh (Sc.rp r s)⟩
theorem Rd.evI {i : Int} (h : Rd X ρ e (.int i)) : Ev X ρ e (.sh (.int i)) := h.ev trivial
/-- from a rule of the layer below that gives a value that is nowhere in the heap -/
theorem Ev.of_sc {te : TE} (h : PE X e te) (s : Sc d) (k : ∀ (σ : L2.St) (H : Hp) (F G : List Addr) (Q : VK), S3 X.K G σ H ρ F → (∀ v H', Same H H' → Rp X.K H' v d → Q v H') → te σ H Q) : Ev X ρ e (.sh d) :=
  Rd.ev (fun σ H F G Q S q => best.of h (k σ H F G Q S q)) s
/-! ### names and constants -/
theorem Ev.name (i : Nat) {x : Str} (hr : ρ[i]? = some (some (.sh d))) (hN : X.N[i]? = some x) (hv : Vis X.env.scope x) (hd : (x == ("__debug__" : Str)) = false := by decide) (hcd : (x == ("__classdict__" : Str)) = false := by decide) : Ev X ρ (.Name x pos) (.sh d) := fun σ H F G Q S k => by
  obtain ⟨v, F1, F2, F3, e1, r, e2, _⟩ := S.ro.get hr
  refine best.of (pe_var hN hv hd hcd) ⟨v, e1, k v H [] ⟨.refl _, (fun a z => nomatch z), List.nodup_nil, ?_⟩⟩
  cases r with
  | sh r => exact .sh r
theorem Rd.name (i : Nat) {x : Str} (hr : ρ[i]? = some (some t)) (hN : X.N[i]? = some x) (hv : Vis X.env.scope x) (hd : (x == ("__debug__" : Str)) = false := by decide) (hcd : (x == ("__classdict__" : Str)) = false := by decide) : Rd X ρ (.Name x pos) t.er := fun σ H F G Q S k => by
  obtain ⟨v, F1, F2, F3, e1, r, e2, _⟩ := S.ro.get hr
  refine best.of (pe_var hN hv hd hcd) ⟨v, e1, k v H (.refl _) (r.rp del_le fun a _ o q => q)⟩
theorem Ev.int {i : Int} {j} : Ev X ρ (.Constant (.int i) j pos) (.sh (.int i)) := Ev.of_sc pe_int trivial fun σ H F G Q S k => k _ H (.refl _) (.int i)
theorem Ev.bl {i : Bool} {j} : Ev X ρ (.Constant (.bool i) j pos) (.sh (.bl i)) := Ev.of_sc pe_bl trivial fun σ H F G Q S k => k _ H (.refl _) (.bl i)
theorem Ev.non {j} : Ev X ρ (.Constant .none j pos) (.sh .non) := Ev.of_sc pe_non trivial fun σ H F G Q S k => k _ H (.refl _) .non
theorem Ev.str {i : Str} {j} : Ev X ρ (.Constant (.str i) j pos) (.sh (.str i)) := Ev.of_sc pe_str trivial fun σ H F G Q S k => k _ H (.refl _) (.str i)
/-- a module's number, class, function -/
theorem Ev.glob {x : Str} {v : V} {u : Value} (hg : Gl X x) (hm : X.mg x = some u) (r : RelV v u) (s : Sc d) (hv : ∀ H, Rp X.K H v d) (hd : (x == ("__debug__" : Str)) = false := by decide) : Ev X ρ (.Name x pos) (.sh d) :=
  Ev.of_sc (pe_glob hg hm r hd) s fun σ H F G Q S k => k _ H (.refl _) (hv H)
/-- a module's tuple -/
theorem Ev.globT {x : Str} {c : Addr} {vs : List V} {ds : List D} (hg : Gl X x) (hm : X.mg x = some (.ref c)) (hs : ∀ H, SqT X.K H c vs) (hv : ∀ H, Rps X.K H vs ds) (hd : (x == ("__debug__" : Str)) = false := by decide) : Ev X ρ (.Name x pos) (.sh (.tup ds)) := fun σ H F G Q S k =>
  best.of (pe_glob (v := .ref c) hg hm rfl hd) (k _ H [] ⟨.refl _, (fun a z => nomatch z), List.nodup_nil, .sh (.tup (hs _) (hv _))⟩)
/-! ### two parts -/
theorem rd2 {x y : D} (ha : Rd X ρ a x) (hb : Rd X ρ b y) {σ : L2.St} {H : Hp} {F G : List Addr} (S : S3 X.K G σ H ρ F) {R : V → V → Hp → Prop} (h : ∀ u v H2, Same H H2 → S3 X.K G σ H2 ρ F → Rp X.K H2 u x → Rp X.K H2 v y → R u v H2) :
    best X a σ H fun u H1 => best X b σ H1 fun v H2 => R u v H2 :=
  ha σ H F G _ S fun u H1 s1 r1 => hb σ H1 F G _ (S.sm s1) fun v H2 s2 r2 => h u v H2 (s1.trans s2) (S.sm (s1.trans s2)) (r1.sm s2) r2
theorem Rp.intE {K : PySem.W.Frag} {H : Hp} {v : V} {i : Int} (h : Rp K H v (.int i)) : v = .int i := by cases h; rfl
theorem Rp.blE {K : PySem.W.Frag} {H : Hp} {v : V} {i : Bool} (h : Rp K H v (.bl i)) : v = .bl i := by cases h; rfl
theorem Rp.strE {K : PySem.W.Frag} {H : Hp} {v : V} {i : Str} (h : Rp K H v (.str i)) : v = .str i := by cases h; rfl
/-- a + b .. of numbers -/
theorem Ev.opI {op : Operator} {C : Int → Int → Prop} {g : Int → Int → Int} (ho : OpR X (binaryOp op) (rI C fun i j => .int (g i j))) {i j : Int} (ha : Rd X ρ a (.int i)) (hb : Rd X ρ b (.int j)) (hc : C i j) : Ev X ρ (.BinOp a op b pos) (.sh (.int (g i j))) :=
  Ev.of_sc (pe_op ho pe_best pe_best) trivial fun σ H F G Q S k => rd2 ha hb S fun u v H2 s S2 r1 r2 => ⟨i, j, r1.intE, r2.intE, hc, k _ H2 s (.int _)⟩
theorem Ev.opI0 {op : Operator} {g : Int → Int → Int} (ho : OpR X (binaryOp op) (rI0 fun i j => .int (g i j))) {i j : Int} (ha : Rd X ρ a (.int i)) (hb : Rd X ρ b (.int j)) : Ev X ρ (.BinOp a op b pos) (.sh (.int (g i j))) :=
  Ev.of_sc (pe_op ho pe_best pe_best) trivial fun σ H F G Q S k => rd2 ha hb S fun u v H2 s S2 r1 r2 => ⟨i, j, r1.intE, r2.intE, k _ H2 s (.int _)⟩
theorem Ev.add {i j : Int} (ha : Rd X ρ a (.int i)) (hb : Rd X ρ b (.int j)) : Ev X ρ (.BinOp a .Add b pos) (.sh (.int (i + j))) := Ev.opI0 op_add ha hb
theorem Ev.sub {i j : Int} (ha : Rd X ρ a (.int i)) (hb : Rd X ρ b (.int j)) : Ev X ρ (.BinOp a .Sub b pos) (.sh (.int (i - j))) := Ev.opI0 op_sub ha hb
theorem Ev.mul {i j : Int} (ha : Rd X ρ a (.int i)) (hb : Rd X ρ b (.int j)) (hc : CMul i j) : Ev X ρ (.BinOp a .Mult b pos) (.sh (.int (i * j))) := Ev.opI op_mul ha hb hc
theorem Ev.mod {i j : Int} (ha : Rd X ρ a (.int i)) (hb : Rd X ρ b (.int j)) (hc : 0 < j) : Ev X ρ (.BinOp a .Mod b pos) (.sh (.int (i % j))) := Ev.opI op_mod ha hb hc
theorem Ev.pow {i j : Int} (ha : Rd X ρ a (.int i)) (hb : Rd X ρ b (.int j)) (hc : CPow i j) : Ev X ρ (.BinOp a .Pow b pos) (.sh (.int (i ^ j.toNat))) := Ev.opI op_pow ha hb hc
theorem Ev.shr {i j : Int} (ha : Rd X ρ a (.int i)) (hb : Rd X ρ b (.int j)) (hc : 0 ≤ j) : Ev X ρ (.BinOp a .RShift b pos) (.sh (.int (i / 2 ^ j.toNat))) := Ev.opI op_shr ha hb hc
theorem Ev.neg {i : Int} (ha : Rd X ρ a (.int i)) : Ev X ρ (.UnaryOp .USub a pos) (.sh (.int (-i))) :=
  Ev.of_sc (pe_un un_neg pe_best) trivial fun σ H F G Q S k => ha σ H F G _ S fun v H1 s1 r => ⟨i, r.intE, k _ H1 s1 (.int _)⟩
end
/-! ### data as the library has them -/
mutual
noncomputable def py : D → PyData
  | .bl b => .bool b
  | .int i => .int i
  | .str x => .str x
  | .lst ds => .list (pys ds)
  | .tup ds => .tuple (pys ds)
  | .frT _ t => .list (t.map fun r => .list (r.map PyData.int))
  | .wit _ i => .int i
  | _ => .none
noncomputable def pys : List D → List PyData
  | [] => []
  | d :: ds => py d :: pys ds
end
mutual
/-- plain data -/
noncomputable def pl : D → Bool
  | .non => true
  | .bl _ => true
  | .int _ => true
  | .str x => PyData.strOk x
  | .lst ds => pls ds
  | .tup ds => pls ds
  | .frT _ _ => true
  | .wit _ _ => true
  | _ => false
noncomputable def pls : List D → Bool
  | [] => true
  | d :: ds => pl d && pls ds
end
theorem ints_dp {K : PySem.W.Frag} {H : Hp} : ∀ r : List Int, DpAll K H (r.map V.int) (r.map PyData.int)
  | [] => .nil
  | x :: r => .cons (.int x) (ints_dp r)
theorem rows_dp {K : PySem.W.Frag} {H : Hp} : ∀ {vs : List V} {rs : List (List Int)}, RowsAt H vs rs → DpAll K H vs (rs.map fun r => .list (r.map PyData.int))
  | _, _, .nil => .nil
  | _, _, .cons ⟨a, e, h⟩ k => e ▸ .cons (.lst (SqL.of h) (ints_dp _)) (rows_dp k)
theorem ints_lay : ∀ r : List Int, PyData.canLayAll0 (r.map PyData.int) = true
  | [] => rfl
  | x :: r => by
    show (PyData.canLay0 (.int x) && PyData.canLayAll0 (r.map PyData.int)) = true
    rw [ints_lay r]
    rfl
theorem rows_lay : ∀ rs : List (List Int), PyData.canLayAll0 (rs.map fun r => PyData.list (r.map PyData.int)) = true
  | [] => rfl
  | r :: rs => by
    show (PyData.canLayAll0 (r.map PyData.int) && PyData.canLayAll0 (rs.map fun r => PyData.list (r.map PyData.int))) = true
    rw [ints_lay r, rows_lay rs]
    rfl
mutual
theorem Rp.dp {K : PySem.W.Frag} {H : Hp} : ∀ {v : V} {d : D}, Rp K H v d → pl d = true → Dp K H v (py d)
  | _, _, .non, _ => .non
  | _, _, .bl b, _ => .bl b
  | _, _, .int b, _ => .int b
  | _, _, .str b, _ => .str b
  | _, _, .ty b, h => nomatch h
  | _, _, .at b, h => nomatch h
  | _, _, .lst q r, h => .lst (SqL.of q) (Rps.dp r h)
  | _, _, .tup q r, h => .tup q (Rps.dp r h)
  | _, _, .obj _ _, h => nomatch h
  | _, _, .dic _ _, h => nomatch h
  | _, _, .wit _, _ => .int _
  | _, _, .dicL _ _, h => nomatch h
  | _, _, .frT _ ⟨a, vs, e, h1, h2⟩, _ => e ▸ .lst (SqL.of (hid_le _ _ h1)) (rows_dp (h2.sm hid_le))
theorem Rps.dp {K : PySem.W.Frag} {H : Hp} : ∀ {v : List V} {d : List D}, Rps K H v d → pls d = true → DpAll K H v (pys d)
  | _, _, .nil, _ => .nil
  | _, _, .cons r rs, h => by
    have h' : (pl _ && pls _) = true := h
    rw [Bool.and_eq_true] at h'
    exact .cons (Rp.dp r h'.1) (Rps.dp rs h'.2)
end
mutual
theorem pl_lay : ∀ d : D, pl d = true → (py d).canLay0 = true
  | .non, _ => rfl
  | .bl _, _ => rfl
  | .int _, _ => rfl
  | .str x, h => h
  | .lst ds, h => pls_lay ds h
  | .tup ds, h => pls_lay ds h
  | .obj _ _, h => nomatch h
  | .dic _, h => nomatch h
  | .ty _, h => nomatch h
  | .at _, h => nomatch h
  | .wit _ _, _ => rfl
  | .dicL _, h => nomatch h
  | .frT _ t, _ => rows_lay t
theorem pls_lay : ∀ ds : List D, pls ds = true → PyData.canLayAll0 (pys ds) = true
  | [], _ => rfl
  | d :: ds, h => by
    have h' : (pl d && pls ds) = true := h
    rw [Bool.and_eq_true] at h'
    show (PyData.canLay0 (py d) && PyData.canLayAll0 (pys ds)) = true
    rw [pl_lay d h'.1, pls_lay ds h'.2]
    rfl
end
/-- plain, and at most so deep -/
noncomputable def Ok (n : Nat) (d : D) : Prop := pl d = true ∧ (py d).depth ≤ n
theorem Ok.shaped {n : Nat} {d : D} (h : Ok n d) (hn : n ≤ 64) : SeqAt.shaped (py d) = true := by
  unfold SeqAt.shaped
  rw [pl_lay d h.1, decide_eq_true (Nat.le_trans h.2 hn)]
  rfl
theorem Ok.mono {n m : Nat} {d : D} (h : Ok n d) (hn : n ≤ m) : Ok m d := ⟨h.1, Nat.le_trans h.2 hn⟩
theorem ok_int {i : Int} {n : Nat} : Ok n (.int i) := ⟨rfl, by show PyData.depth (.int i) ≤ n; simp [PyData.depth]⟩
theorem ok_bl {i : Bool} {n : Nat} : Ok n (.bl i) := ⟨rfl, by show PyData.depth (.bool i) ≤ n; simp [PyData.depth]⟩
theorem oks {n : Nat} : ∀ {ds : List D}, (∀ d ∈ ds, Ok n d) → pls ds = true ∧ PyData.depthAll (pys ds) ≤ n
  | [], _ => ⟨rfl, by show PyData.depthAll [] ≤ n; simp [PyData.depthAll]⟩
  | d :: ds, h => by
    obtain ⟨h1, h2⟩ := h d (List.mem_cons_self ..)
    obtain ⟨h3, h4⟩ := oks (ds := ds) fun x hx => h x (List.mem_cons_of_mem _ hx)
    refine ⟨?_, ?_⟩
    · show (pl d && pls ds) = true
      rw [h1, h3]
      rfl
    · show PyData.depthAll (py d :: pys ds) ≤ n
      simp only [PyData.depthAll]
      omega
theorem ok_lst {n : Nat} {ds : List D} (h : ∀ d ∈ ds, Ok n d) : Ok (n + 1) (.lst ds) := by
  obtain ⟨h1, h2⟩ := oks h
  refine ⟨h1, ?_⟩
  show PyData.depth (.list (pys ds)) ≤ n + 1
  simp only [PyData.depth]
  omega
theorem ok_tup {n : Nat} {ds : List D} (h : ∀ d ∈ ds, Ok n d) : Ok (n + 1) (.tup ds) := by
  obtain ⟨h1, h2⟩ := oks h
  refine ⟨h1, ?_⟩
  show PyData.depth (.tuple (pys ds)) ≤ n + 1
  simp only [PyData.depth]
  omega
theorem ok_map {α : Type} {n : Nat} {f : α → D} {xs : List α} (h : ∀ x, Ok n (f x)) : Ok (n + 1) (.lst (xs.map f)) := ok_lst fun d hd => by
  obtain ⟨x, _, rfl⟩ := List.mem_map.mp hd
  exact h x
/-- == of data -/
noncomputable def eqb (x y : D) : Bool := PyData.eqv (py x) (py y)
/-! ### comparisons -/
/-- what an operator says of two data -/
noncomputable def CmpD (X : Cx) (op : CmpOp) (x y : D) (b : Bool) : Prop := ∃ r : R2, OpR X (compareOp op) r ∧ ∀ (u v : V) (H : Hp) (Q : VK), Rp X.K H u x → Rp X.K H v y → Q (.bl b) H → r u v H Q
section
variable {X : Cx} {ρ : Rho} {e a b c : Expr} {es : List Expr} {t : T} {d x y z : D} {pos : Pos} {op op' : CmpOp}
theorem CmpD.lt {i j : Int} : CmpD X .Lt (.int i) (.int j) (decide (i < j)) := ⟨_, op_lt, fun u v H Q h1 h2 q => ⟨i, j, h1.intE, h2.intE, q⟩⟩
theorem CmpD.le {i j : Int} : CmpD X .LtE (.int i) (.int j) (decide (i ≤ j)) := ⟨_, op_le, fun u v H Q h1 h2 q => ⟨i, j, h1.intE, h2.intE, q⟩⟩
theorem CmpD.gt {i j : Int} : CmpD X .Gt (.int i) (.int j) (decide (j < i)) := ⟨_, op_gt, fun u v H Q h1 h2 q => ⟨i, j, h1.intE, h2.intE, q⟩⟩
theorem CmpD.ge {i j : Int} : CmpD X .GtE (.int i) (.int j) (decide (j ≤ i)) := ⟨_, op_ge, fun u v H Q h1 h2 q => ⟨i, j, h1.intE, h2.intE, q⟩⟩
theorem CmpD.eqI {i j : Int} : CmpD X .Eq (.int i) (.int j) (decide (i = j)) := ⟨_, op_eq, fun u v H Q h1 h2 q => by
  rw [h1.intE, h2.intE]
  refine ⟨rfl, ?_⟩
  rw [dec_int, Bool.beq_eq_decide_eq]
  exact q⟩
theorem CmpD.neI {i j : Int} : CmpD X .NotEq (.int i) (.int j) (!decide (i = j)) := ⟨_, op_ne, fun u v H Q h1 h2 q => by
  rw [h1.intE, h2.intE]
  refine ⟨rfl, ?_⟩
  rw [dec_int, Bool.beq_eq_decide_eq]
  exact q⟩
theorem CmpD.eq {k n m : Nat} (hr : Room k X.A) (hx : Ok n x) (hy : Ok m y) (hn : n ≤ 64 := by decide) (hm : m ≤ 64 := by decide) : CmpD X .Eq x y (eqb x y) :=
  ⟨_, op_eqD hr.units, fun u v H Q h1 h2 q => ⟨py x, py y, h1.dp hx.1, h2.dp hy.1, hx.shaped hn, hy.shaped hm, q⟩⟩
theorem CmpD.ne {k n m : Nat} (hr : Room k X.A) (hx : Ok n x) (hy : Ok m y) (hn : n ≤ 64 := by decide) (hm : m ≤ 64 := by decide) : CmpD X .NotEq x y (!eqb x y) :=
  ⟨_, op_neD hr.units, fun u v H Q h1 h2 q => ⟨py x, py y, h1.dp hx.1, h2.dp hy.1, hx.shaped hn, hy.shaped hm, q⟩⟩
/-- in a tuple of numbers -/
theorem Rps.ints {K : PySem.W.Frag} {H : Hp} : ∀ {ns : List Int} {vs : List V}, Rps K H vs (ns.map D.int) → vs = ns.map V.int
  | [], _, h => by cases h; rfl
  | n :: ns, _, h => by
    cases h with
    | cons h1 h2 => rw [h1.intE, Rps.ints h2]; rfl
theorem Rps.bls {K : PySem.W.Frag} {H : Hp} : ∀ {ns : List Bool} {vs : List V}, Rps K H vs (ns.map D.bl) → vs = ns.map V.bl
  | [], _, h => by cases h; rfl
  | n :: ns, _, h => by
    cases h with
    | cons h1 h2 => rw [h1.blE, Rps.bls h2]; rfl
theorem flat_ints : ∀ ns : List Int, (ns.map V.int).all flatV = true
  | [] => rfl
  | n :: ns => by rw [List.map_cons, List.all_cons, flat_ints ns]; rfl
theorem inV_ints (i : Int) : ∀ ns : List Int, inV (.int i) (ns.map V.int) = decide (i ∈ ns)
  | [] => rfl
  | n :: ns => by
    have ih := inV_ints i ns
    show ((n == i) || inV (.int i) (ns.map V.int)) = _
    rw [ih]
    by_cases h1 : n = i
    · subst h1
      rw [beq_self_eq_true, Bool.true_or, decide_eq_true (List.mem_cons_self ..)]
    · rw [beq_eq_false_iff_ne.mpr h1, Bool.false_or]
      by_cases h2 : i ∈ ns
      · rw [decide_eq_true h2, decide_eq_true (List.mem_cons_of_mem _ h2)]
      · rw [decide_eq_false h2, decide_eq_false fun z => (List.mem_cons.mp z).elim (fun e => h1 e.symm) h2]
theorem CmpD.notInTI {i : Int} {ns : List Int} : CmpD X .NotIn (.int i) (.tup (ns.map D.int)) (!decide (i ∈ ns)) := ⟨_, op_notIn_seq, fun u v H Q h1 h2 q => by
  cases h2 with
  | tup hs hr =>
    rw [h1.intE]
    rw [hr.ints] at hs
    refine ⟨_, _, rfl, .inr hs, rfl, flat_ints ns, ?_⟩
    rw [inV_ints]
    exact q⟩
theorem Ev.cmp {p : Bool} (h : CmpD X op x y p) (ha : Rd X ρ a x) (hb : Rd X ρ b y) (hm : behindInMarks op b = false := by first | exact nomark _ | rfl) : Ev X ρ (.Compare a [op] [b] pos) (.sh (.bl p)) := by
  obtain ⟨r, ho, hq⟩ := h
  exact Ev.of_sc (pe_cmpR ho pe_best pe_best hm) trivial fun σ H F G Q S k => rd2 ha hb S fun u v H2 s S2 r1 r2 => hq u v H2 Q r1 r2 (k _ H2 s (.bl _))
theorem Te.cmp {p : Bool} (h : CmpD X op x y p) (ha : Rd X ρ a x) (hb : Rd X ρ b y) (hm : behindInMarks op b = false := by first | exact nomark _ | rfl) : Te X ρ (.Compare a [op] [b] pos) p := by
  obtain ⟨r, ho, hq⟩ := h
  exact fun σ H F G Q S k => bestT.of (pt_cmpR ho pe_best pe_best hm) (rd2 ha hb S fun u v H2 s S2 r1 r2 => hq u v H2 _ r1 r2 ⟨p, rfl, k H2 s⟩)
theorem chain_core {p q : Bool} {r r' : R2} {op op' : CmpOp} (hq : ∀ (u v : V) (H : Hp) (Q : VK), Rp X.K H u x → Rp X.K H v y → Q (.bl p) H → r u v H Q) (hq' : ∀ (u v : V) (H : Hp) (Q : VK), Rp X.K H u y → Rp X.K H v z → Q (.bl q) H → r' u v H Q)
    (ha : Rd X ρ a x) (hb : Rd X ρ b y) (hc : Rd X ρ c z) {σ : L2.St} {H : Hp} {F G : List Addr} {Q : VK} (S : S3 X.K G σ H ρ F) (k : ∀ H', Same H H' → Q (.bl (p && q)) H') : tChain r r' (best X a) (best X b) (best X c) σ H Q :=
  rd2 ha hb S fun u v H2 s S2 r1 r2 => hq u v H2 _ r1 r2 ⟨p, rfl, by
    cases p with
    | false =>
      rw [if_neg Bool.false_ne_true]
      exact k H2 s
    | true =>
      rw [if_pos rfl]
      exact hc σ H2 F G _ S2 fun w H3 s3 r3 => hq' v w H3 Q (r2.sm s3) r3 (k H3 (s.trans s3))⟩
theorem Ev.chain {p q : Bool} (h : CmpD X op x y p) (h' : CmpD X op' y z q) (ha : Rd X ρ a x) (hb : Rd X ρ b y) (hc : Rd X ρ c z) (hm : lastMarks [op, op'] [b, c] = false := by with_unfolding_all rfl) : Ev X ρ (.Compare a [op, op'] [b, c] pos) (.sh (.bl (p && q))) := by
  obtain ⟨r, ho, hq⟩ := h
  obtain ⟨r', ho', hq'⟩ := h'
  exact Ev.of_sc (pe_chain ho ho' pe_best pe_best pe_best hm) trivial fun σ H F G Q S k => chain_core (op := op) (op' := op') hq hq' ha hb hc S fun H' s => k _ H' s (.bl _)
theorem Te.chain {p q : Bool} (h : CmpD X op x y p) (h' : CmpD X op' y z q) (ha : Rd X ρ a x) (hb : Rd X ρ b y) (hc : Rd X ρ c z) (hm : lastMarks [op, op'] [b, c] = false := by with_unfolding_all rfl) : Te X ρ (.Compare a [op, op'] [b, c] pos) (p && q) := by
  obtain ⟨r, ho, hq⟩ := h
  obtain ⟨r', ho', hq'⟩ := h'
  exact fun σ H F G Q S k => bestT.of (pt_chain ho ho' pe_best pe_best pe_best hm) (chain_core (op := op) (op' := op') hq hq' ha hb hc S fun H' s => ⟨_, rfl, k H' s⟩)
/-! ### tests, and, or, not -/
theorem Te.val {p : Bool} (h : Ev X ρ e (.sh (.bl p))) (he : ∀ whole, isTrue e X.env whole = (do let v ← whole; standAt e.pos; holding [v] (truthy v)) := by intro _; rfl) : Te X ρ e p := fun σ H F G Q S k =>
  bestT.of (pt_val pe_best he) (h σ H F G _ S fun v H' E r => ⟨p, by have := r.rp; exact this.blE, k H' r.sm⟩)
theorem Te.of {p q : Bool} (h : Te X ρ e p) (e' : p = q) : Te X ρ e q := e' ▸ h
theorem Te.not {p : Bool} (h : Te X ρ a p) : Te X ρ (.UnaryOp .Not a pos) (!p) := fun σ H F G Q S k => bestT.of (pt_not pt_best) (h σ H F G _ S fun H' s => k H' s)
theorem Ev.not {p : Bool} (h : Ev X ρ a (.sh (.bl p))) : Ev X ρ (.UnaryOp .Not a pos) (.sh (.bl (!p))) :=
  Ev.of_sc (pe_not pe_best) trivial fun σ H F G Q S k => h σ H F G _ S fun v H' E r => ⟨p, by have := r.rp; exact this.blE, k _ H' r.sm (.bl _)⟩
structure bestW (X : Cx) (e : Expr) (σ : L2.St) (H : Hp) (Q : Bool → Hp → Prop) : Prop where
  run : ∀ (whole : Sem Value) (pins : List (Addr × Obj)) (s : Shared), Inv X pins σ H s → wpAny (model X.prog X.w) X.A (isTrue e X.env whole) (TP X pins σ Q) X.xe s
theorem pw_best {X : Cx} {e : Expr} : PW X e (bestW X e) := ⟨fun wh pins s σ H Q I h => h.run wh pins s I⟩
theorem bestW.of {X : Cx} {e : Expr} {t : TT} (h : PW X e t) {σ : L2.St} {H : Hp} {Q : Bool → Hp → Prop} (q : t σ H Q) : bestW X e σ H Q := ⟨fun wh pins s I => h.run wh pins s σ H Q I q⟩
/-- a chain of and, or as a test -/
noncomputable def Tw (X : Cx) (ρ : Rho) (e : Expr) (b : Bool) : Prop := ∀ (σ : L2.St) (H : Hp) (F G : List Addr) (Q : Bool → Hp → Prop), S3 X.K G σ H ρ F → (∀ H', Same H H' → Q b H') → bestW X e σ H Q
theorem Tw.te {p : Bool} (h : Tw X ρ e p) : Te X ρ e p := fun σ H F G Q S k => bestT.of pw_best.pt (h σ H F G Q S k)
theorem Tw.or1 {p : Bool} (h : Te X ρ a p) : Tw X ρ (.BoolOp .Or [a] pos) p := fun σ H F G Q S k => bestW.of (pw_or1 pt_best) (h σ H F G Q S k)
theorem Tw.or {p q : Bool} {r : List Expr} (h : Te X ρ a p) (h' : p = false → Tw X ρ (.BoolOp .Or (b :: r) pos) q) : Tw X ρ (.BoolOp .Or (a :: b :: r) pos) (p || q) := fun σ H F G Q S k => bestW.of (pw_or pt_best pw_best) (h σ H F G _ S fun H1 s1 => by
  cases p with
  | true =>
    rw [if_pos rfl]
    exact k H1 s1
  | false =>
    rw [if_neg Bool.false_ne_true]
    exact h' rfl σ H1 F G Q (S.sm s1) fun H2 s2 => k H2 (s1.trans s2))
theorem Ev.and1 {o : BoolOp} (h : Ev X ρ a t) : Ev X ρ (.BoolOp o [a] pos) t := fun σ H F G Q S k => best.of (pe_one pe_best) (h σ H F G Q S k)
theorem Ev.and {p q : Bool} {r : List Expr} (h : Ev X ρ a (.sh (.bl p))) (h' : p = true → Ev X ρ (.BoolOp .And (b :: r) pos) (.sh (.bl q))) : Ev X ρ (.BoolOp .And (a :: b :: r) pos) (.sh (.bl (p && q))) :=
  Ev.of_sc (pe_and pe_best pe_best) trivial fun σ H F G Q S k => h σ H F G _ S fun v H1 E r1 => ⟨p, by have := r1.rp; exact this.blE, by
    cases p with
    | false =>
      rw [if_neg Bool.false_ne_true]
      exact k _ H1 r1.sm (.bl _)
    | true =>
      rw [if_pos rfl]
      exact h' rfl σ H1 F G Q (S.sm r1.sm) fun v H2 E r2 => k v H2 (r1.sm.trans r2.sm) r2.rp⟩
theorem Ev.ifx {p : Bool} (hc : Te X ρ c p) (ha : p = true → Ev X ρ a t) (hb : p = false → Ev X ρ b t) : Ev X ρ (.IfExp c a b pos) t := fun σ H F G Q S k => best.of (pe_ifExp pt_best pe_best pe_best) (hc σ H F G _ S fun H1 s1 => by
  cases p with
  | true =>
    rw [if_pos rfl]
    exact ha rfl σ H1 F G Q (S.sm s1) fun v H2 E r => k v H2 E (r.mono s1)
  | false =>
    rw [if_neg Bool.false_ne_true]
    exact hb rfl σ H1 F G Q (S.sm s1) fun v H2 E r => k v H2 E (r.mono s1))
end
section
variable {K : PySem.W.Frag} {H H' H1 H2 : Hp} {F G N E E2 : List Addr} {σ : L2.St} {ρ : Rho} {v : V} {t : T}
/-- a new result is others' node for what follows -/
theorem S3.ext (S : S3 K G σ H ρ F) (sm : Same H H1) (fr : ∀ a ∈ E, H a = none) (nd : E.Nodup) (so : ∀ a ∈ E, ∃ o, H1 a = some o) : S3 K (E ++ G) σ H1 ρ F := by
  have hF : ∀ a ∈ E, a ∉ F ++ G := fun a ha z => by
    obtain ⟨o, e⟩ := S.fs a z
    rw [fr a ha] at e
    cases e
  refine ⟨S.ro.sm (del_new sm fun a ha => ?_) (.of sm), ?_, fun a ha => ?_⟩
  · rcases List.mem_append.mp ha with z | z
    · exact .inl (List.mem_append_left _ z)
    · rcases List.mem_append.mp z with z | z
      · exact .inr (fr a z)
      · exact .inl (List.mem_append_right _ z)
  · obtain ⟨h1, h2, h3⟩ := List.nodup_append.mp S.nd
    refine List.nodup_append.mpr ⟨h1, List.nodup_append.mpr ⟨nd, h2, fun a ha b hb e => ?_⟩, fun a ha b hb e => ?_⟩
    · subst e
      exact hF a ha (List.mem_append_right _ hb)
    · subst e
      rcases List.mem_append.mp hb with z | z
      · exact hF a z (List.mem_append_left _ ha)
      · exact h3 a ha a z rfl
  · rcases List.mem_append.mp ha with z | z
    · exact so a z
    · obtain ⟨o, q⟩ := S.gs a z
      exact ⟨o, sm _ _ q⟩
theorem mem3 {a : Addr} {A B C : List Addr} : a ∈ A ++ (B ++ C) → a ∈ B ++ (A ++ C) := fun h => by
  rcases List.mem_append.mp h with z | z
  · exact List.mem_append_right _ (List.mem_append_left _ z)
  · rcases List.mem_append.mp z with z | z
    · exact List.mem_append_left _ z
    · exact List.mem_append_right _ (List.mem_append_right _ z)
/-- two results beside one another -/
theorem ResA.cons {vs : List V} {ts : List T} (S : S3 K G σ H ρ F) (r : Res K (F ++ G) H H1 v t E) (q : ResA K (F ++ (E ++ G)) H1 H2 vs ts E2) : ResA K (F ++ G) H H2 (v :: vs) (t :: ts) (E ++ E2) := by
  refine ⟨r.sm.trans q.sm, fun a ha => ?_, ?_, ?_⟩
  · exact (List.mem_append.mp ha).elim (r.fr a) fun z => r.sm.free (q.fr a z)
  · refine List.nodup_append.mpr ⟨r.nd, q.nd, fun a ha b hb e => ?_⟩
    subst e
    obtain ⟨o, z⟩ := r.rt.fs a ha
    rw [q.fr a hb] at z
    cases z
  · refine .cons ((r.rt.keep q.sm q.fr).less (del_sub fun a ha => ?_)) (q.rt.less (del_sub fun a ha => ?_))
    · rw [List.append_assoc] at ha
      exact ha
    · rcases List.mem_append.mp ha with z | z
      · rcases List.mem_append.mp z with z | z
        · exact mem3 (List.mem_append_right _ (mem3 (List.mem_append_left _ z)))
        · exact List.mem_append_left _ z
      · rcases List.mem_append.mp z with z | z
        · exact List.mem_append_right _ (List.mem_append_left _ z)
        · exact List.mem_append_right _ (List.mem_append_right _ (List.mem_append_right _ z))
theorem ResA.freeze {vs : List V} {ts : List T} (h : ResA K N H H' vs ts E) (hn : ∀ a ∈ N, ∃ o, H a = some o) : Rps K (del N H') vs (T.ers ts) :=
  h.rt.rp (del_sub fun a ha => List.mem_append_right _ ha) fun a ha o q => (del_out fun z => by
    obtain ⟨o, e⟩ := hn a z
    rw [h.fr a ha] at e
    cases e).trans q
theorem same_upd {H : Hp} {p : Addr} {o : HO} (h : H p = none) : Same H (upd H p o) := fun b x e => by
  rw [upd_ne (ne_of_none e h)]
  exact e
theorem ResA.lst {vs : List V} {ts : List T} (h : ResA K N H H' vs ts E) {p : Addr} (hp : H' p = none) : Res K N H (upd H' p (.lst vs)) (.ref p) (.lst ts) (p :: E) := by
  refine ⟨h.sm.trans (same_upd hp), fun a ha => ?_, ?_, .lst upd_same ?_⟩
  · rcases List.mem_cons.mp ha with e | z
    · rw [e]
      exact h.sm.free hp
    · exact h.fr a z
  · refine List.nodup_cons.mpr ⟨fun z => ?_, h.nd⟩
    obtain ⟨o, e⟩ := h.rt.fs p z
    rw [hp] at e
    cases e
  · refine h.rt.sm (del_new (same_upd hp) fun a ha => ?_) (.of (same_upd hp))
    rcases List.mem_cons.mp ha with e | z
    · rw [e]
      exact .inr hp
    · exact .inl z
theorem Rps.len {vs : List V} {ds : List D} (h : Rps K H vs ds) : vs.length = ds.length := by
  induction ds generalizing vs with
  | nil => cases h; rfl
  | cons d ds ih =>
    cases h with
    | cons _ h => rw [List.length_cons, List.length_cons, ih h]
theorem RTs.len {R : Hp} : ∀ {ts : List T} {vs : List V} {F : List Addr}, RTs K R H vs ts F → vs.length = ts.length
  | [], _, _, h => by cases h; rfl
  | t :: ts, _, _, h => by
    cases h with
    | cons _ h => rw [List.length_cons, List.length_cons, RTs.len h]
theorem ers_map (f : D → T) (hf : ∀ d, (f d).er = d) : ∀ ds : List D, T.ers (ds.map f) = ds
  | [] => rfl
  | d :: ds => by
    show (f d).er :: T.ers (ds.map f) = d :: ds
    rw [hf, ers_map f hf ds]
theorem ers_sh (ds : List D) : T.ers (ds.map T.sh) = ds := ers_map _ (fun _ => rfl) ds
theorem RTs.of_sh {R : Hp} : ∀ {ds : List D} {vs : List V}, Rps K R vs ds → RTs K R H vs (ds.map T.sh) []
  | [], _, h => by cases h; exact .nil
  | d :: ds, _, h => by
    cases h with
    | cons h1 h2 => exact RTs.cons (F := []) (G := []) (.sh h1) (RTs.of_sh h2)
theorem Rps.get : ∀ {ds : List D} {vs : List V} {i : Nat} {d : D}, Rps K H vs ds → ds[i]? = some d → ∃ v, vs[i]? = some v ∧ Rp K H v d
  | [], _, _, _, _, h => by simp at h
  | d :: ds, _, 0, _, h, e => by
    cases h with
    | cons h1 h2 =>
      simp at e
      subst e
      exact ⟨_, rfl, h1⟩
  | d :: ds, _, i + 1, _, h, e => by
    cases h with
    | cons h1 h2 =>
      obtain ⟨v, e1, r⟩ := Rps.get h2 (i := i) (by simpa using e)
      exact ⟨v, by simpa using e1, r⟩
theorem Rps.at {ds : List D} {vs : List V} {i : Int} {d : D} (h : Rps K H vs ds) (e : atI ds i = some d) : ∃ v, atI vs i = some v ∧ Rp K H v d := by
  unfold atI at e ⊢
  rw [h.len]
  cases q : ixN ds.length i with
  | none =>
    rw [q] at e
    cases e
  | some j =>
    rw [q] at e
    exact h.get e
theorem RTs.get {R : Hp} : ∀ {ts : List T} {vs : List V} {F : List Addr} {i : Nat} {t : T}, RTs K R H vs ts F → ts[i]? = some t → ∃ v F', vs[i]? = some v ∧ (∀ a ∈ F', a ∈ F) ∧ RT K R H v t F'
  | [], _, _, _, _, _, h => by simp at h
  | t :: ts, _, _, 0, _, h, e => by
    cases h with
    | cons h1 h2 =>
      simp at e
      subst e
      exact ⟨_, _, rfl, fun a ha => List.mem_append_left _ ha, h1⟩
  | t :: ts, _, _, i + 1, _, h, e => by
    cases h with
    | cons h1 h2 =>
      obtain ⟨v, F', e1, s, r⟩ := RTs.get h2 (i := i) (by simpa using e)
      exact ⟨v, F', by simpa using e1, fun a ha => List.mem_append_right _ (s a ha), r⟩
theorem RTs.at {R : Hp} {ts : List T} {vs : List V} {F : List Addr} {i : Int} {t : T} (h : RTs K R H vs ts F) (e : atI ts i = some t) : ∃ v F', atI vs i = some v ∧ (∀ a ∈ F', a ∈ F) ∧ RT K R H v t F' := by
  unfold atI at e ⊢
  rw [h.len]
  cases q : ixN ts.length i with
  | none =>
    rw [q] at e
    cases e
  | some j =>
    rw [q] at e
    exact h.get e
end
section
variable {X : Cx} {ρ : Rho} {e a b c : Expr} {es : List Expr} {t : T} {ts : List T} {d : D} {ds : List D} {pos : Pos}
theorem EvA.nil : EvA X ρ [] [] := fun σ H F G Q S k => bestA.of pa_nil (k [] H [] ⟨.refl _, (fun a z => nomatch z), List.nodup_nil, .nil⟩)
theorem EvA.cons (h : Ev X ρ e t) (h' : EvA X ρ es ts) (hs : starEach (e :: es) X.env = (false, eval e X.env) :: starEach es X.env := by rfl) : EvA X ρ (e :: es) (t :: ts) := fun σ H F G Q S k =>
  bestA.of (pa_cons pe_best pa_best hs) (h σ H F G _ S fun v H1 E r => h' σ H1 F (E ++ G) _ (S.ext r.sm r.fr r.nd r.rt.fs) fun vs H2 E2 q => k _ H2 _ (ResA.cons S r q))
theorem RdA.nil : RdA X ρ [] [] := fun σ H F G Q S k => bestA.of pa_nil (k [] H (.refl _) .nil)
theorem RdA.cons (h : Rd X ρ e d) (h' : RdA X ρ es ds) (hs : starEach (e :: es) X.env = (false, eval e X.env) :: starEach es X.env := by rfl) : RdA X ρ (e :: es) (d :: ds) := fun σ H F G Q S k =>
  bestA.of (pa_cons pe_best pa_best hs) (h σ H F G _ S fun v H1 s r => h' σ H1 F G _ (S.sm s) fun vs H2 s2 q => k _ H2 (s.trans s2) (.cons (r.sm s2) q))
/-- [a, b], (a, b) -/
theorem Ev.list (h : EvA X ρ es ts) (hz : ts.length ≤ sizeLine := by first | decide | exact Nat.le_of_lt (small1000 (Nat.le_of_ble_eq_true rfl))) : Ev X ρ (.List es pos) (.lst ts) := fun σ H F G Q S k =>
  best.of (pe_lst pa_best) (h σ H F G _ S fun vs H1 E r => ⟨by rw [r.rt.len]; exact hz, fun p hp => k _ _ _ (r.lst hp)⟩)
theorem Ev.tup {x1} (h : EvA X ρ es ts) (hz : ts.length ≤ sizeLine := by first | decide | exact Nat.le_of_lt (small1000 (Nat.le_of_ble_eq_true rfl))) : Ev X ρ (.Tuple es x1 pos) (.sh (.tup (T.ers ts))) := fun σ H F G Q S k =>
  best.of (pe_tup pa_best) (h σ H F G _ S fun vs H1 E r => ⟨by rw [r.rt.len]; exact hz, fun p hp => k _ _ [] ⟨r.sm.trans (same_upd hp), (fun a z => nomatch z), List.nodup_nil, .sh (.tup (SqT.of (xs := vs) ?_) ((r.freeze S.fs).sm (del_sm (same_upd hp))))⟩⟩)
where finally
  refine (del_out fun z => ?_).trans upd_same
  obtain ⟨o, q⟩ := S.fs p z
  rw [r.sm.free hp] at q
  cases q
/-! ### paths into own nodes -/
noncomputable def Pa (X : Cx) (ρ : Rho) (e : Expr) (t : T) : Prop := ∀ (σ : L2.St) (H : Hp) (F G : List Addr) (Q : VK), S3 X.K G σ H ρ F → (∀ v H' E, Same H H' → (∀ a ∈ E, a ∈ F) → RT X.K (del (F ++ G) H') H' v t E → Q v H') → best X e σ H Q
theorem Pa.name (i : Nat) {x : Str} (hr : ρ[i]? = some (some t)) (hN : X.N[i]? = some x) (hv : Vis X.env.scope x) (hd : (x == ("__debug__" : Str)) = false := by decide) (hcd : (x == ("__classdict__" : Str)) = false := by decide) : Pa X ρ (.Name x pos) t := fun σ H F G Q S k => by
  obtain ⟨v, F1, F2, F3, e1, r, e2, _⟩ := S.ro.get hr
  refine best.of (pe_var hN hv hd hcd) ⟨v, e1, k v H F2 (.refl _) (fun a ha => ?_) r⟩
  rw [e2]
  exact List.mem_append_right _ (List.mem_append_left _ ha)
theorem Pa.ev (h : Pa X ρ e (.sh d)) : Ev X ρ e (.sh d) := fun σ H F G Q S k => h σ H F G Q S fun v H' E s _ r => by
  cases r with
  | sh r => exact k v H' [] ⟨s, (fun a z => nomatch z), List.nodup_nil, .sh r⟩
/-- xs[i] -/
theorem Pa.ix {i : Int} (h : Pa X ρ a (.lst ts)) (hb : Rd X ρ b (.int i)) (q : atI ts i = some t) (hs : PlainIx b := by intro _ _; rfl) : Pa X ρ (.Subscript a b pos) t := fun σ H F G Q S k =>
  best.of (pe_ix ix_list pe_best pe_best hs) (h σ H F G _ S fun v H1 E s1 hE r1 => hb σ H1 F G _ (S.sm s1) fun w H2 s2 r2 => by
    cases r1 with
    | lst h1 h2 =>
      obtain ⟨u, F', e, sub, r⟩ := h2.at q
      refine ⟨_, _, i, u, rfl, r2.intE, SqL.of (s2 _ _ h1), e, k u H2 F' (s1.trans s2) (fun a ha => hE a (List.mem_cons_of_mem _ (sub a ha))) ?_⟩
      exact r.sm (del_sm s2) (.of s2))
theorem Rd.ix {i : Int} (h : Rd X ρ a (.lst ds)) (hb : Rd X ρ b (.int i)) (q : atI ds i = some d) (hs : PlainIx b := by intro _ _; rfl) : Rd X ρ (.Subscript a b pos) d := fun σ H F G Q S k =>
  best.of (pe_ix ix_list pe_best pe_best hs) (rd2 h hb S fun u v H2 s S2 r1 r2 => by
    cases r1 with
    | lst h1 h2 =>
      obtain ⟨u, e, r⟩ := h2.at q
      exact ⟨_, _, i, u, rfl, r2.intE, SqL.of h1, e, k u H2 s r⟩)
theorem Rd.ixT {i : Int} (h : Rd X ρ a (.tup ds)) (hb : Rd X ρ b (.int i)) (q : atI ds i = some d) (hs : PlainIx b := by intro _ _; rfl) : Rd X ρ (.Subscript a b pos) d := fun σ H F G Q S k =>
  best.of (pe_ix ix_tup pe_best pe_best hs) (rd2 h hb S fun u v H2 s S2 r1 r2 => by
    cases r1 with
    | tup h1 h2 =>
      obtain ⟨u, e, r⟩ := h2.at q
      exact ⟨_, _, i, u, rfl, r2.intE, h1, e, k u H2 s r⟩)
theorem Ev.ix {i : Int} (h : Ev X ρ a (.sh (.lst ds))) (hb : Rd X ρ b (.int i)) (q : atI ds i = some d) (hs : PlainIx b := by intro _ _; rfl) : Ev X ρ (.Subscript a b pos) (.sh d) := fun σ H F G Q S k =>
  best.of (pe_ix ix_list pe_best pe_best hs) (h σ H F G _ S fun v H1 E r1 => hb σ H1 F G _ (S.sm r1.sm) fun w H2 s2 r2 => by
    have r1' := r1.rt
    cases r1' with
    | sh r1' =>
      cases r1' with
      | lst h1 h2 =>
        obtain ⟨u, e, r⟩ := h2.at q
        exact ⟨_, _, i, u, rfl, r2.intE, SqL.of (s2 _ _ (del_some h1).2), e, k u H2 [] ⟨r1.sm.trans s2, (fun a z => nomatch z), List.nodup_nil, .sh (r.sm (del_sm s2))⟩⟩)
/-! ### lists whose items are shared -/
noncomputable def Ls (X : Cx) (ρ : Rho) (e : Expr) (ds : List D) : Prop := ∀ (σ : L2.St) (H : Hp) (F G : List Addr) (Q : VK), S3 X.K G σ H ρ F → (∀ p vs H', Same H H' → H' p = some (.lst vs) → Rps X.K (del (F ++ G) H') vs ds → Q (.ref p) H') → best X e σ H Q
theorem Ev.ls (h : Ev X ρ e (.lst ts)) : Ls X ρ e (T.ers ts) := fun σ H F G Q S k => h σ H F G Q S fun v H' E r => by
  have q := r.freeze S.fs
  have q' := q.rt
  cases q' with
  | sh q' =>
    cases q' with
    | lst h1 h2 => exact k _ _ H' r.sm (del_some h1).2 h2
theorem Ev.lsS (h : Ev X ρ e (.sh (.lst ds))) : Ls X ρ e ds := fun σ H F G Q S k => h σ H F G Q S fun v H' E r => by
  have q' := r.rt
  cases q' with
  | sh q' =>
    cases q' with
    | lst h1 h2 => exact k _ _ H' r.sm (del_some h1).2 h2
/-- a new list of shared items -/
theorem new_sh {K : PySem.W.Frag} {G F : List Addr} {σ : L2.St} {H H' : Hp} (S : S3 K G σ H ρ F) (s : Same H H') {vs : List V} (r : Rps K (del (F ++ G) H') vs ds) {p : Addr} (hp : H' p = none) : Res K (F ++ G) H (upd H' p (.lst vs)) (.ref p) (.lst (ds.map T.sh)) [p] :=
  ResA.lst (E := []) ⟨s, (fun a z => nomatch z), List.nodup_nil, RTs.of_sh r⟩ hp
theorem Rps.app {K : PySem.W.Frag} {H : Hp} : ∀ {ds es : List D} {vs ws : List V}, Rps K H vs ds → Rps K H ws es → Rps K H (vs ++ ws) (ds ++ es)
  | [], _, _, _, h, h' => by cases h; exact h'
  | d :: ds, _, _, _, h, h' => by
    cases h with
    | cons h1 h2 => exact .cons h1 (Rps.app h2 h')
theorem Rps.take {K : PySem.W.Frag} {H : Hp} : ∀ {ds : List D} {vs : List V} (n : Nat), Rps K H vs ds → Rps K H (vs.take n) (ds.take n)
  | _, _, 0, _ => by rw [List.take_zero, List.take_zero]; exact .nil
  | [], _, n + 1, h => by cases h; exact .nil
  | d :: ds, _, n + 1, h => by
    cases h with
    | cons h1 h2 => exact .cons h1 (Rps.take n h2)
theorem Rps.drop {K : PySem.W.Frag} {H : Hp} : ∀ {ds : List D} {vs : List V} (n : Nat), Rps K H vs ds → Rps K H (vs.drop n) (ds.drop n)
  | _, _, 0, h => h
  | [], _, n + 1, h => by cases h; exact .nil
  | d :: ds, _, n + 1, h => by
    cases h with
    | cons h1 h2 => exact Rps.drop n h2
theorem Rps.rep {K : PySem.W.Frag} {H : Hp} {ds : List D} {vs : List V} (h : Rps K H vs ds) : ∀ n : Nat, Rps K H (List.replicate n vs).flatten (List.replicate n ds).flatten
  | 0 => .nil
  | n + 1 => by
    rw [List.replicate_succ, List.replicate_succ, List.flatten_cons, List.flatten_cons]
    exact h.app (Rps.rep h n)
theorem Ev.cat {es : List D} (h : Ls X ρ a ds) (h' : Ls X ρ b es) (hz : ds.length + es.length ≤ sizeLine) : Ev X ρ (.BinOp a .Add b pos) (.lst ((ds ++ es).map T.sh)) := fun σ H F G Q S k =>
  best.of (pe_op op_cat pe_best pe_best) (h σ H F G _ S fun p vs H1 s1 e1 r1 => h' σ H1 F G _ (S.sm s1) fun q ws H2 s2 e2 r2 =>
    ⟨p, q, vs, ws, rfl, rfl, s2 _ _ e1, e2, by rw [r1.len, r2.len]; exact hz, fun o ho => k _ _ _ (new_sh S (s1.trans s2) ((r1.sm (del_sm s2)).app r2) ho)⟩)
theorem Ev.rep {i : Int} (h : Ls X ρ a ds) (h' : Rd X ρ b (.int i)) (h1 : -(2 ^ 63) ≤ i) (h2 : i < 2 ^ 63) (hz : ds.length * i.toNat ≤ sizeLine) : Ev X ρ (.BinOp a .Mult b pos) (.lst ((List.replicate i.toNat ds).flatten.map T.sh)) := fun σ H F G Q S k =>
  best.of (pe_op op_rep pe_best pe_best) (h σ H F G _ S fun p vs H1 s1 e1 r1 => h' σ H1 F G _ (S.sm s1) fun q H2 s2 r2 =>
    ⟨p, i, vs, rfl, r2.intE, s2 _ _ e1, h1, h2, by rw [r1.len]; exact hz, fun o ho => k _ _ _ (new_sh S (s1.trans s2) ((r1.sm (del_sm s2)).rep _) ho)⟩)
noncomputable def cutD (xs : List D) (lo hi : Option Int) : List D := (xs.drop (HT.sIx xs.length 0 lo)).take (HT.sIx xs.length xs.length hi - HT.sIx xs.length 0 lo)
theorem po_best {e : Expr} : PO X (some e) (tPart (best X e)) := po_some pe_best
theorem Ev.cutL {lo : Expr} {i : Int} {p2 : Pos} (h : Ls X ρ a ds) (hl : Rd X ρ lo (.int i)) : Ev X ρ (.Subscript a (.Slice (some lo) none none p2) pos) (.lst ((cutD ds (some i) none).map T.sh)) := fun σ H F G Q S k =>
  best.of (pe_slice sl_list pe_best po_best po_none) (h σ H F G _ S fun p vs H1 s1 e1 r1 => hl σ H1 F G _ (S.sm s1) fun q H2 s2 r2 => ⟨i, r2.intE,
    p, vs, rfl, SqL.of (s2 _ _ e1), fun o ho => k _ _ _ (new_sh S (s1.trans s2) (by
      unfold cutV
      rw [r1.len]
      exact Rps.take _ (Rps.drop _ (r1.sm (del_sm s2)))) ho)⟩)
theorem Ev.cutH {hi : Expr} {i : Int} {p2 : Pos} (h : Ls X ρ a ds) (hl : Rd X ρ hi (.int i)) : Ev X ρ (.Subscript a (.Slice none (some hi) none p2) pos) (.lst ((cutD ds none (some i)).map T.sh)) := fun σ H F G Q S k =>
  best.of (pe_slice sl_list pe_best po_none po_best) (h σ H F G _ S fun p vs H1 s1 e1 r1 => hl σ H1 F G _ (S.sm s1) fun q H2 s2 r2 => ⟨i, r2.intE,
    p, vs, rfl, SqL.of (s2 _ _ e1), fun o ho => k _ _ _ (new_sh S (s1.trans s2) (by
      unfold cutV
      rw [r1.len]
      exact Rps.take _ (Rps.drop _ (r1.sm (del_sm s2)))) ho)⟩)
end
/-! ### defs called where no text of a list is under way -/
/-- as FnOk, where nothing guards -/
structure FnG (P : Program) (w : World) (K : PySem.W.Frag) (mg : Str → Option Value) (base : Heap) (C : CXT) (k : Nat) (f : Addr) (fd : FuncData) (ps : List Str) (sp : Sp) : Prop where
  n : ∀ zs H Q E, sp zs H Q E → zs.length = ps.length
  go : ∀ {A : Around} {o : List Env} {s : Shared} {H : Hp} {as : Args} {us : List Value} {zs : List V} {Q : VK} {E : XK}, A.guards = some [] → Room k A → Env0 P w K mg base A o s H → BindsTo s fd as (ps.zip us) → Vals zs us → sp zs H Q E → codeAny (model P w) A (.call (.ref f) as) (CR C o P w H s Q E) s
section
variable {P : Program} {w : World} {K : PySem.W.Frag} {mg : Str → Option Value} {base : Heap} {C : CXT} {k : Nat} {f : Addr} {fd : FuncData} {ps : List Str} {sp : Sp}
/-- a call's end is the body's -/
theorem cr_end {N : List Str} {qual : Str} {sc : Scope} {cd : Value} {A : Around} {o : List Env} {s s2 : Shared} {H : Hp} {Q : VK} {E : XK} : ∀ {r : Flow}, SP (cxOf C P w K mg base N qual sc f cd A o s H E) [] { nx := fun _ H' => Q .non H', rt := Q } r s2 →
    CR C o P w H s Q E (.ok (.ret (match r with | .ret u => u | _ => .none))) s2
  | .ret u, ⟨v, _, H2, J, rv, q⟩ => ⟨v, H2, J.os, J.bare, J.base, J.hok, rv, q⟩
  | .next, ⟨_, H2, J, q⟩ => ⟨.non, H2, J.os, J.bare, J.base, J.hok, rfl, q⟩
  | .brk, ⟨_, _, _, q⟩ => q.elim
  | .cont, ⟨_, _, _, q⟩ => q.elim
/-- a def by its body -/
theorem FnG.of {x qual : Str} {st : Stmt} {N : List Str} (F : Fun K x qual st f fd) (S : FnScope N ps (defScope st)) (n : ∀ zs H Q E, sp zs H Q E → zs.length = ps.length)
    (b : ∀ (cd : Value) (A : Around) (o : List Env) (s : Shared) (H : Hp) (zs : List V) (Q : VK) (E : XK), A.guards = some [] → Room k (A.deeper (envOfC qual (defScope st) s.heap.objs.size f cd)) → sp zs H Q E →
      ∃ t, PSs (cxOf C P w K mg base N qual (defScope st) f cd A o s H E) (defBody st) t ∧ t { nx := fun _ H' => Q .non H', rt := Q } (L2.start N zs) H) : FnG P w K mg base C (k + 1) f fd ps sp := by
  obtain ⟨oc, od, kV, doc, pm, an, cd, ct, sl, rfl, lk, hc⟩ := F.ex
  refine ⟨n, fun {A o s H as us zs Q E} gd hr e0 hb r h => ?_⟩
  have up : ∀ b x, base.get? b = some x → s.heap.get? b = some x := fun b x e => (e0.bs b x e).1
  have KX : K.In s.heap := e0.mod.kin.keeps up
  have kinds : ∀ y ∈ ps.zip us, (defScope st).names.lookup y.1 = some .local ∨ ((defScope st).names.lookup y.1 = some .cell ∧ ((cellsFrom (s.heap.objs.size + 1) (defScope st).names []).lookup y.1).isSome = true) := fun ⟨y, z⟩ hy =>
    (S.par y (List.of_mem_zip hy).1).elim .inl fun q => .inr ⟨q, PySem.W.cellsFrom_some _ _ _ (.inl q)⟩
  refine codeAny_call_function hr.depth (KX _ _ lk) rfl S.co S.gen rfl (PySem.W.codeRec_of KX hc) (hb _ _ _ _ (wpAny_newFunctionEnv_cells S.kind kinds fun env he s1 x => ?_))
  subst he
  obtain ⟨t, ht, hq⟩ := b cd A o s H zs Q E gd (hr.deeper _) h
  exact ⟨(e0.mod.nolimit.keeps up).keeps x.toInCall.keep, codeAny_func (wpAny_mono (ht.run [] s1 _ H _ (inv_start S hr.hd e0 (n _ _ _ _ h) r x) hq) (fun _ _ z => cr_end z) fun _ _ z => z)⟩
/-- no exception leaves it -/
theorem FnG.of0 {x qual : Str} {st : Stmt} {N : List Str} (F : Fun K x qual st f fd) (S : FnScope N ps (defScope st)) (n : ∀ zs H Q E, sp zs H Q E → zs.length = ps.length)
    (b : ∀ (cd : Value) (A : Around) (o : List Env) (s : Shared) (H : Hp) (zs : List V) (Q : VK) (E : XK), A.guards = some [] → Room k (A.deeper (envOfC qual (defScope st) s.heap.objs.size f cd)) → sp zs H Q E →
      ∃ t, PSs (cxOf CX0 P w K mg base N qual (defScope st) f cd A o s H E).nox (defBody st) t ∧ t { nx := fun _ H' => Q .non H', rt := Q } (L2.start N zs) H) : FnG P w K mg base CX0 (k + 1) f fd ps sp :=
  FnG.of F S n fun cd A o s H zs Q E gd hr h => (b cd A o s H zs Q E gd hr h).elim fun t q => ⟨t, q.1.nox, q.2⟩
end
section
variable {X : Cx} {C : CXT} {k : Nat} {f c : Addr} {fd : FuncData} {ps : List Str} {sp : Sp} {E : XK} {x m : Str} {p pos apos : Pos} {e o : Expr} {es : List Expr} {te : TE} {t : TA} {pins : List (Addr × Obj)} {σ : L2.St} {H : Hp} {s : Shared} {Q : VK} {us : List Value} {zs : List V}
theorem FnG.run (F : FnG X.prog X.w X.K X.mg X.base C k f fd ps sp) (gd : X.A.guards = some []) (hr : Room k X.A) (hb : Binds X.K fd ps []) (hx : Passes C X E) (I : Inv X pins σ H s) (r : Vals zs us) (h : sp zs H Q E) : wpAny (model X.prog X.w) X.A (call (.ref f) us) (EP X pins σ Q) X.xe s := by
  have l : (us ++ []).length = ps.length := by rw [List.append_nil, ← r.length, F.n _ _ _ _ h]
  have hb' := hb s us I.kIn l
  rw [List.append_nil] at hb'
  refine wpAny_call (codeAny_mono (F.go gd hr I.env0 hb' r h) fun z s2 q => ?_)
  match z, q with
  | .error e, q => exact hx pins σ H s e s2 I q
  | .ok (.ret u), q => exact I.after q
  | .ok .next, q => exact q.elim
  | .ok .brk, q => exact q.elim
  | .ok .cont, q => exact q.elim
/-- f(..) -/
theorem pe_callG (F : FnG X.prog X.w X.K X.mg X.base C k f fd ps sp) (gd : X.A.guards = some []) (hr : Room k X.A) (hg : Gl X x) (hm : X.mg x = some (.ref f)) (hk : PySem.W.keepIn X.K (.ref f) = true) (hb : Binds X.K fd ps []) (hx : Passes C X E) (ha : PA X (e :: es) t) (hd : (x == ("__debug__" : Str)) = false)
    (he : starEach (e :: es) X.env = (false, eval e X.env) :: starEach es X.env) (hp : (backTo pos (starEach es X.env)).any (·.1) = false) : PE X (.Call (.Name x p) (e :: es) [] pos) fun σ H Q => t σ H fun vs H1 => sp vs H1 Q E :=
  ⟨fun pins s σ H Q I h => wpAny_Call_Name_kw (ld_glob I hg hm (PySem.W.callWith_K (h₀ := X.base) I.ok.mod.kin hk (thn (ha.run pos pins s σ H _ I h) fun us s1 ⟨zs, H1, I1, r, q⟩ => ⟨I1.kIn, F.run gd hr hb hx I1 r q⟩) he hp) hd)⟩
end
/-! ### the law's own call -/
section
variable {P : Program} {w : World} {K : PySem.W.Frag} {mg mb : Str → Option Value} {k : Nat} {fa a : Addr} {fd : FuncData} {x : Str} {sp : Sp} {s : Shared} {vs : List Value} {ns : List Int}
end
/-- the module -/
structure Md where
  P : Program
  w : World
  K : PySem.W.Frag
  mg : Str → Option Value
  base : Heap
/-- where a body runs: its names, their kinds, the room -/
structure XF (M : Md) (N : List Str) (sc : Scope) (fc : Str → Bool) (k : Nat) (X : Cx) : Prop where
  p : X.prog = M.P
  w : X.w = M.w
  K : X.K = M.K
  m : X.mg = M.mg
  b : X.base = M.base
  n : X.N = N
  s : X.env.scope = sc
  nd : N.Nodup
  calm : X.calm = true
  fn : X.fn = fc
  room : Room k X.A
  xe : X.xe = fun _ _ => False
  gd : X.A.guards = some []
noncomputable def visB (sc : Scope) (x : Str) : Bool := (match sc.names.lookup x with | some .local => true | some .cell => true | some .free => true | _ => false) && !(x == ("__debug__" : Str)) && !(x == ("__classdict__" : Str))
noncomputable def glB (sc : Scope) (x : Str) : Bool := (match sc.names.lookup x with | some .globalImplicit => true | _ => false) && !(x == ("__debug__" : Str))
noncomputable def locB (sc : Scope) (fc : Str → Bool) (x : Str) : Bool := match sc.names.lookup x with | some .local => true | some .cell => fc x | _ => false
theorem visB_ok {sc : Scope} {x : Str} (h : visB sc x = true) : Vis sc x ∧ (x == ("__debug__" : Str)) = false ∧ (x == ("__classdict__" : Str)) = false := by
  unfold visB at h
  rw [Bool.and_eq_true, Bool.and_eq_true] at h
  obtain ⟨⟨h1, h2⟩, h3⟩ := h
  refine ⟨?_, by simpa using h2, by simpa using h3⟩
  unfold Vis
  split at h1 <;> first | exact .inl (by assumption) | exact .inr (.inl (by assumption)) | exact .inr (.inr (by assumption)) | cases h1
section
variable {M : Md} {N : List Str} {sc : Scope} {fc : Str → Bool} {k : Nat} {X : Cx} {ρ : Rho} {e a b c : Expr} {es : List Expr} {t : T} {ts : List T} {d : D} {ds : List D} {pos p : Pos} {x : Str}
theorem XF.gl (hX : XF M N sc fc k X) (h : glB sc x = true) : Gl X x ∧ (x == ("__debug__" : Str)) = false := by
  unfold glB at h
  rw [Bool.and_eq_true] at h
  obtain ⟨h1, h2⟩ := h
  refine ⟨?_, by simpa using h2⟩
  show X.env.scope.names.lookup x = _
  rw [hX.s]
  split at h1 <;> first | assumption | cases h1
theorem XF.loc (hX : XF M N sc fc k X) (h : locB sc fc x = true) : L2.Loc X.env.scope x ∧ (X.fn x = true ∨ X.env.scope.names.lookup x = some .local) := by
  unfold locB at h
  unfold L2.Loc
  rw [hX.s, hX.fn]
  split at h
  · rename_i e
    exact ⟨.inl e, .inr e⟩
  · rename_i e
    exact ⟨.inr e, .inl h⟩
  · cases h
theorem XF.hp (hX : XF M N sc fc k X) : PassesOwn (model X.prog X.w) X.A X.env X.xe := by
  rw [hX.xe]
  exact PassesOwn.never
theorem XF.pg (hX : XF M N sc fc k X) (i : Nat) (hN : N[i]? = some x) (h : locB sc fc x = true) : PG X (.Name x pos) (gName i) := by
  obtain ⟨h1, h2⟩ := hX.loc h
  exact pg_name (by rw [hX.n]; exact hX.nd) (by rw [hX.n]; exact hN) h1 h2
/-- names -/
theorem nm (hX : XF M N sc fc k X) (i : Nat) (hr : ρ[i]? = some (some (.sh d)) := by rfl) (hN : N[i]? = some x := by rfl) (hv : visB sc x = true := by decide +kernel) : Ev X ρ (.Name x pos) (.sh d) := by
  obtain ⟨h1, h2, h3⟩ := visB_ok hv
  exact Ev.name i hr (by rw [hX.n]; exact hN) (by rw [hX.s]; exact h1) h2 h3
theorem nmR (hX : XF M N sc fc k X) (i : Nat) (hr : ρ[i]? = some (some t) := by rfl) (hN : N[i]? = some x := by rfl) (hv : visB sc x = true := by decide +kernel) : Rd X ρ (.Name x pos) t.er := by
  obtain ⟨h1, h2, h3⟩ := visB_ok hv
  exact Rd.name i hr (by rw [hX.n]; exact hN) (by rw [hX.s]; exact h1) h2 h3
theorem nmP (hX : XF M N sc fc k X) (i : Nat) (hr : ρ[i]? = some (some t) := by rfl) (hN : N[i]? = some x := by rfl) (hv : visB sc x = true := by decide +kernel) : Pa X ρ (.Name x pos) t := by
  obtain ⟨h1, h2, h3⟩ := visB_ok hv
  exact Pa.name i hr (by rw [hX.n]; exact hN) (by rw [hX.s]; exact h1) h2 h3
/-! ### calls of built-in functions -/
theorem callB {id : String} {r : List V → Hp → VK → Prop} (hX : XF M N sc fc k X) (hc : CallR X (.builtin id) r) (hg : glB sc x = true) (hm : M.mg x = none) (hv : bootBuiltins x = some (.builtin id)) (hn : x ≠ "__name__") (s : Sc d)
    (ha : RdA X ρ (e :: es) ds) (q : ∀ vs H Q, Rps X.K H vs ds → (∀ v, Rp X.K H v d → Q v H) → r vs H Q)
    (he : starEach (e :: es) X.env = (false, eval e X.env) :: starEach es X.env := by rfl) (hpl : (backTo pos (starEach es X.env)).any (·.1) = false := by rfl) : Ev X ρ (.Call (.Name x p) (e :: es) [] pos) (.sh d) := by
  obtain ⟨h1, h2⟩ := hX.gl hg
  exact Ev.of_sc (pe_callB hc h1 (by rw [hX.m]; exact hm) hv pa_best hn h2 he hpl) s fun σ H F G Q S k => ha σ H F G _ S fun vs H' sm r => q vs H' Q r fun v rv => k v H' sm rv
theorem callTy {id : String} {r : List V → Hp → VK → Prop} (hX : XF M N sc fc k X) (hc : CallR X (.type id) r) (hg : glB sc x = true) (hm : M.mg x = none) (hv : bootBuiltins x = some (.type id)) (hn : x ≠ "__name__") (s : Sc d)
    (ha : RdA X ρ (e :: es) ds) (q : ∀ vs H Q, Rps X.K H vs ds → (∀ v, Rp X.K H v d → Q v H) → r vs H Q)
    (he : starEach (e :: es) X.env = (false, eval e X.env) :: starEach es X.env := by rfl) (hpl : (backTo pos (starEach es X.env)).any (·.1) = false := by rfl) : Ev X ρ (.Call (.Name x p) (e :: es) [] pos) (.sh d) := by
  obtain ⟨h1, h2⟩ := hX.gl hg
  exact Ev.of_sc (pe_callTy hc h1 (by rw [hX.m]; exact hm) hv pa_best hn h2 he hpl) s fun σ H F G Q S k => ha σ H F G _ S fun vs H' sm r => q vs H' Q r fun v rv => k v H' sm rv
theorem RdA.one (h : Rd X ρ e d) (hs : starEach (e :: []) X.env = (false, eval e X.env) :: starEach [] X.env := by rfl) : RdA X ρ [e] [d] := .cons h .nil hs
theorem Rps.one {K : PySem.W.Frag} {H : Hp} {vs : List V} (h : Rps K H vs [d]) : ∃ v, vs = [v] ∧ Rp K H v d := by
  cases h with
  | cons h1 h2 =>
    cases h2
    exact ⟨_, rfl, h1⟩
theorem Rps.two {K : PySem.W.Frag} {H : Hp} {vs : List V} {d' : D} (h : Rps K H vs [d, d']) : ∃ v w, vs = [v, w] ∧ Rp K H v d ∧ Rp K H w d' := by
  cases h with
  | cons h1 h2 =>
    obtain ⟨w, rfl, r⟩ := h2.one
    exact ⟨_, _, rfl, h1, r⟩
theorem e_len (hX : XF M N sc fc k X) (hm : M.mg "len" = none) (ha : Rd X ρ e (.lst ds)) (hs : starEach (e :: []) X.env = (false, eval e X.env) :: starEach [] X.env := by rfl) (hg : glB sc "len" = true := by decide +kernel) : Ev X ρ (.Call (.Name "len" p) [e] [] pos) (.sh (.int ds.length)) :=
  callB hX call_len_seq hg hm PySem.boot_len (by decide) trivial (.one ha hs) (fun vs H Q r q => by
    obtain ⟨v, rfl, r'⟩ := r.one
    cases r' with
    | lst h1 h2 => exact ⟨_, _, rfl, .inl (SqL.of h1), by rw [h2.len]; exact q _ (.int _)⟩) hs
theorem e_sum {ns : List Int} (hX : XF M N sc fc k X) (hm : M.mg "sum" = none) (ha : Rd X ρ e (.lst (ns.map D.int))) (hs : starEach (e :: []) X.env = (false, eval e X.env) :: starEach [] X.env := by rfl) (hg : glB sc "sum" = true := by decide +kernel) : Ev X ρ (.Call (.Name "sum" p) [e] [] pos) (.sh (.int ns.sum)) :=
  callB hX (cr_sum hX.calm) hg hm PyProof.Rows.boot_sum (by decide) trivial (.one ha hs) (fun vs H Q r q => by
    obtain ⟨v, rfl, r'⟩ := r.one
    cases r' with
    | lst h1 h2 =>
      rw [h2.ints] at h1
      exact ⟨_, ns, rfl, SqL.of h1, q _ (.int _)⟩) hs
theorem boot_all : bootBuiltins "all" = some (.builtin "all") := by decide +kernel
theorem boot_any : bootBuiltins "any" = some (.builtin "any") := by decide +kernel
theorem e_all {bs : List Bool} (hX : XF M N sc fc k X) (hm : M.mg "all" = none) (ha : Rd X ρ e (.lst (bs.map D.bl))) (hs : starEach (e :: []) X.env = (false, eval e X.env) :: starEach [] X.env := by rfl) (hg : glB sc "all" = true := by decide +kernel) : Ev X ρ (.Call (.Name "all" p) [e] [] pos) (.sh (.bl (bs.all id))) :=
  callB hX (cr_all hX.calm) hg hm boot_all (by decide) trivial (.one ha hs) (fun vs H Q r q => by
    obtain ⟨v, rfl, r'⟩ := r.one
    cases r' with
    | lst h1 h2 =>
      rw [h2.bls] at h1
      exact ⟨_, bs, rfl, SqL.of h1, q _ (.bl _)⟩) hs
theorem e_any {bs : List Bool} (hX : XF M N sc fc k X) (hm : M.mg "any" = none) (ha : Rd X ρ e (.lst (bs.map D.bl))) (hs : starEach (e :: []) X.env = (false, eval e X.env) :: starEach [] X.env := by rfl) (hg : glB sc "any" = true := by decide +kernel) : Ev X ρ (.Call (.Name "any" p) [e] [] pos) (.sh (.bl (bs.any id))) :=
  callB hX (cr_any hX.calm) hg hm boot_any (by decide) trivial (.one ha hs) (fun vs H Q r q => by
    obtain ⟨v, rfl, r'⟩ := r.one
    cases r' with
    | lst h1 h2 =>
      rw [h2.bls] at h1
      exact ⟨_, bs, rfl, SqL.of h1, q _ (.bl _)⟩) hs
theorem e_intB {q : Bool} (hX : XF M N sc fc k X) (hm : M.mg "int" = none) (ha : Rd X ρ e (.bl q)) (hs : starEach (e :: []) X.env = (false, eval e X.env) :: starEach [] X.env := by rfl) (hg : glB sc "int" = true := by decide +kernel) : Ev X ρ (.Call (.Name "int" p) [e] [] pos) (.sh (.int (if q then 1 else 0))) :=
  callTy hX call_int1 hg hm PyProof.Rows.boot_int (by decide) trivial (.one ha hs) (fun vs H Q r z => by
    obtain ⟨v, rfl, r'⟩ := r.one
    rw [r'.blE]
    exact .inr ⟨q, rfl, z _ (.int _)⟩) hs
/-- list(xs) -/
theorem e_listOf (hX : XF M N sc fc k X) (hm : M.mg "list" = none) (ha : Ls X ρ e ds) (hs : starEach (e :: []) X.env = (false, eval e X.env) :: starEach [] X.env := by rfl) (hg : glB sc "list" = true := by decide +kernel) : Ev X ρ (.Call (.Name "list" p) [e] [] pos) (.lst (ds.map T.sh)) := by
  obtain ⟨h1, h2⟩ := hX.gl hg
  exact fun σ H F G Q S k => best.of (pe_callTy call_list_of h1 (by rw [hX.m]; exact hm) PyProof.Rows.boot_list (pa_cons pe_best pa_nil hs) (by decide) h2 hs rfl)
    (ha σ H F G _ S fun q vs H' sm e r => ⟨q, vs, rfl, .inl (SqL.of e), fun l hl => k _ _ _ (new_sh S sm r hl)⟩)
/-! ### calls of defs -/
/-- the contract: on data ds it gives a tree t -/
noncomputable def sp3 (K : PySem.W.Frag) (g : List D → T → Prop) : Sp := fun vs H Q _ => ∃ (ds : List D) (t : T) (G : List Addr), Rps K (del G H) vs ds ∧ (∀ a ∈ G, ∃ o, H a = some o) ∧ G.Nodup ∧ g ds t ∧ ∀ v H' E, Res K G H H' v t E → Q v H'
/-- a def of the module keeps its contract -/
noncomputable def DefOk (M : Md) (k : Nat) (x : Str) (g : List D → T → Prop) : Prop := ∃ (f : Addr) (fd : FuncData) (ps : List Str), FnG M.P M.w M.K M.mg M.base CX0 k f fd ps (sp3 M.K g) ∧ M.mg x = some (.ref f) ∧ PySem.W.keepIn M.K (.ref f) = true ∧ Binds M.K fd ps []
theorem DefOk.pe {j : Nat} {g : List D → T → Prop} (hX : XF M N sc fc k X) (hF : DefOk M j x g) (hj : j ≤ k) (hg : glB sc x = true) (he : starEach (e :: es) X.env = (false, eval e X.env) :: starEach es X.env) (hpl : (backTo pos (starEach es X.env)).any (·.1) = false) :
    PE X (.Call (.Name x p) (e :: es) [] pos) (fun σ H Q => bestA X (e :: es) σ H fun vs H1 => sp3 X.K g vs H1 Q E0) := by
  obtain ⟨f, fd, ps, F, hm, hk, hb⟩ := hF
  obtain ⟨h1, h2⟩ := hX.gl hg
  obtain ⟨pP, pw, pK, pm, pb, _, _, _, _, _, room, _, gd⟩ := hX
  cases M
  simp only at pP pw pK pm pb F hm hk hb
  subst pP pw pK pm pb
  exact pe_callG F gd (room.mono hj) h1 hm hk hb pass0 pa_best h2 he hpl
/-- the arguments' nodes are shared from then on -/
theorem Ev.call {j : Nat} {g : List D → T → Prop} (hX : XF M N sc fc k X) (hF : DefOk M j x g) (ha : EvA X ρ (e :: es) ts) (q : g (T.ers ts) t) (hj : j ≤ k := by decide) (hg : glB sc x = true := by decide +kernel)
    (he : starEach (e :: es) X.env = (false, eval e X.env) :: starEach es X.env := by rfl) (hpl : (backTo pos (starEach es X.env)).any (·.1) = false := by rfl) : Ev X ρ (.Call (.Name x p) (e :: es) [] pos) t := fun σ H F G Q S k =>
  best.of (hF.pe hX hj hg he hpl) (ha σ H F G _ S fun vs H1 E r => by
    show sp3 X.K g vs H1 Q E0
    exact ⟨T.ers ts, t, F ++ G, r.freeze S.fs, fun a ha => (S.sm r.sm).fs a ha, S.nd, q, fun v H' E2 z => k v H' E2 (z.mono r.sm)⟩)
/-! ### targets -/
inductive Tg where
  | one (i : Nat) | tup (is : List Nat)
noncomputable def gNames : List Nat → TGs
  | [] => gNil
  | i :: is => gCons (gName i) (gNames is)
noncomputable def Tg.g (K : PySem.W.Frag) : Tg → TG
  | .one i => gName i
  | .tup is => gTup K is.length (gNames is)
noncomputable def setAll : List Nat → List D → Rho → Rho
  | i :: is, d :: ds, ρ => setAll is ds (ρ.set i (some (.sh d)))
  | _, _, ρ => ρ
noncomputable def Tg.asg : Tg → D → Rho → Rho
  | .one i, d, ρ => ρ.set i (some (.sh d))
  | .tup is, .tup ds, ρ => setAll is ds ρ
  | _, _, ρ => ρ
noncomputable def Tg.ok : Tg → D → Bool
  | .one _, _ => true
  | .tup is, .tup ds => decide (is.length = ds.length)
  | _, _ => false
noncomputable def Tg.is : Tg → List Nat
  | .one i => [i]
  | .tup is => is
/-- the slot bears no own node -/
noncomputable def fre (ρ : Rho) (i : Nat) : Bool := match ρ[i]? with
  | some (some (.sh _)) => true
  | some (some _) => false
  | _ => true
theorem RO.setS {K : PySem.W.Frag} {R H : Hp} {σ : L2.St} {F : List Addr} {v : V} (r : Rp K R v d) : ∀ {ρ : Rho} {σ : L2.St} {F : List Addr} (i : Nat), RO K R H σ ρ F → fre ρ i = true → RO K R H (σ.set i (some v)) (ρ.set i (some (.sh d))) F := by
  intro ρ σ F i h
  induction h generalizing i with
  | nil => intro _; exact .nil
  | @no o σ ρ G h ih =>
    intro f
    cases i with
    | zero => exact RO.yes (F := []) (.sh r) h
    | succ i => exact .no (ih i f)
  | @yes v t σ ρ F G rt h ih =>
    intro f
    cases i with
    | zero =>
      have f' : fre (some t :: ρ) 0 = true := f
      cases rt with
      | sh _ => exact RO.yes (F := []) (.sh r) h
      | lst _ _ => cases f'
      | obj _ _ => cases f'
      | dic _ _ => cases f'
      | regT _ _ _ => cases f'
    | succ i => exact .yes rt (ih i f)
theorem fre_set {ρ : Rho} {i j : Nat} (h : fre ρ j = true) : fre (ρ.set i (some (.sh d))) j = true := by
  unfold fre
  by_cases e : i = j
  · subst e
    by_cases l : i < ρ.length
    · rw [List.getElem?_set_self l]
    · rw [List.getElem?_eq_none (by rw [List.length_set]; omega)]
  · rw [List.getElem?_set_ne e]
    exact h
theorem S3.setS {K : PySem.W.Frag} {G F : List Addr} {H : Hp} {σ : L2.St} {v : V} (S : S3 K G σ H ρ F) (r : Rp K (del (F ++ G) H) v d) (i : Nat) (f : fre ρ i = true) : S3 K G (σ.set i (some v)) H (ρ.set i (some (.sh d))) F :=
  ⟨RO.setS (σ := σ) (F := F) r i S.ro f, S.nd, S.gs⟩
theorem wipe_set {v : Option V} : ∀ {vs : List Nat} {σ : L2.St} {i : Nat}, i ∈ vs → wipe (σ.set i v) vs = wipe σ vs
  | [], _, _, h => nomatch h
  | j :: vs, σ, i, h => by
    show (wipe (σ.set i v) vs).set j none = (wipe σ vs).set j none
    by_cases e : i ∈ vs
    · rw [wipe_set e]
    · have e' : i = j := (List.mem_cons.mp h).resolve_right e
      subst e'
      have : ∀ {vs : List Nat} {σ : L2.St}, i ∉ vs → wipe (σ.set i v) vs = (wipe σ vs).set i v := by
        intro vs
        induction vs with
        | nil => intro σ _; rfl
        | cons j vs ih =>
          intro σ hn
          show (wipe (σ.set i v) vs).set j none = ((wipe σ vs).set j none).set i v
          rw [ih fun z => hn (List.mem_cons_of_mem _ z)]
          exact List.set_comm _ _ fun z => hn (z ▸ List.mem_cons_self ..)
      rw [this e, List.set_set]
theorem gNames_run {K : PySem.W.Frag} {G F : List Addr} {H : Hp} {ws : List Nat} {Q : L2.St → Hp → Prop} : ∀ {is : List Nat} {ds : List D} {vs : List V} {ρ : Rho} {σ : L2.St}, is.length = ds.length → Rps K (del (F ++ G) H) vs ds → (∀ i ∈ is, fre ρ i = true) → S3 K G σ H ρ F →
    (∀ σ', S3 K G σ' H (setAll is ds ρ) F → ((∀ i ∈ is, i ∈ ws) → wipe σ' ws = wipe σ ws) → Q σ' H) → gNames is vs σ H Q
  | [], [], _, ρ, σ, _, h, _, S, q => by
    cases h
    exact ⟨rfl, q σ S fun _ => rfl⟩
  | i :: is, d :: ds, _, ρ, σ, l, h, f, S, q => by
    cases h with
    | cons h1 h2 =>
      refine ⟨_, _, rfl, gNames_run (ws := ws) (ds := ds) (by simpa using l) h2 (fun j hj => fre_set (f j (List.mem_cons_of_mem _ hj))) (S.setS h1 i (f i (List.mem_cons_self ..))) fun σ' S' w => q σ' S' fun hw => ?_⟩
      rw [w fun j hj => hw j (List.mem_cons_of_mem _ hj)]
      exact wipe_set (hw i (List.mem_cons_self ..))
  | [], _ :: _, _, _, _, l, _, _, _, _ => by simp at l
  | _ :: _, [], _, _, _, l, _, _, _, _ => by simp at l
theorem Tg.run {K : PySem.W.Frag} {G F : List Addr} {H : Hp} {σ : L2.St} {v : V} (tg : Tg) (ws : List Nat) {Q : L2.St → Hp → Prop} (S : S3 K G σ H ρ F) (r : Rp K (del (F ++ G) H) v d) (ok : tg.ok d = true) (f : ∀ i ∈ tg.is, fre ρ i = true)
    (q : ∀ σ', S3 K G σ' H (tg.asg d ρ) F → ((∀ i ∈ tg.is, i ∈ ws) → wipe σ' ws = wipe σ ws) → Q σ' H) : tg.g K v σ H Q := by
  cases tg with
  | one i => exact q _ (S.setS r i (f i (List.mem_cons_self ..))) fun hw => wipe_set (hw i (List.mem_cons_self ..))
  | tup is =>
    cases r with
    | @tup a vs ds h1 h2 =>
      have l : is.length = ds.length := of_decide_eq_true ok
      exact ⟨a, vs, rfl, SqT.sm del_le h1, by rw [h2.len]; exact l.symm, gNames_run l h2 f S q⟩
    | _ => cases ok
end
/-! ### what is walked -/
structure Jsp (K : PySem.W.Frag) (J : It) (ds : List D) (H : Hp) (N : List Addr) : Prop where
  go : ∀ i d, ds[i]? = some d → J.go i H ∧ ∀ x H', J.yld i H x H' → Same H H' ∧ Rp K (del N H') x d
  stop : J.stop ds.length H
/-- for a comprehension: nothing that stands is changed -/
noncomputable def ItC (X : Cx) (ρ : Rho) (tg iter : Expr) (ds : List D) : Prop := ∃ wi : TI, PI X tg iter wi ∧ ∀ (σ : L2.St) (H : Hp) (F G : List Addr) (R : It → Hp → Prop), S3 X.K G σ H ρ F →
  (∀ J H1, Same H H1 → (∀ H2 N2, Same H1 H2 → Same (del (F ++ G) H1) (del N2 H2) → (∀ a ∈ N2, ∃ o, H2 a = some o) → Jsp X.K J ds H2 N2) → R J H1) → wi σ H R
/-- for a loop: what is shared is not changed -/
noncomputable def ItF (X : Cx) (ρ : Rho) (tg iter : Expr) (ds : List D) : Prop := ∃ wi : TI, PI X tg iter wi ∧ ∀ (σ : L2.St) (H : Hp) (F G : List Addr) (R : It → Hp → Prop), S3 X.K G σ H ρ F →
  (∀ J H1, Same H H1 → (∀ H2 N2, Same (del (F ++ G) H1) (del N2 H2) → (∀ a ∈ N2, ∃ o, H2 a = some o) → Jsp X.K J ds H2 N2) → R J H1) → wi σ H R
theorem ItF.c {X : Cx} {ρ : Rho} {tg iter : Expr} {ds : List D} (h : ItF X ρ tg iter ds) : ItC X ρ tg iter ds := by
  obtain ⟨wi, p, h⟩ := h
  exact ⟨wi, p, fun σ H F G R S k => h σ H F G R S fun J H1 s j => k J H1 s fun H2 N2 _ q z => j H2 N2 q z⟩
section
variable {M : Md} {N : List Str} {sc : Scope} {fc : Str → Bool} {k : Nat} {X : Cx} {ρ : Rho} {e a b c : Expr} {es : List Expr} {t : T} {ts : List T} {d : D} {ds ds' : List D} {pos p : Pos} {x : Str} {tg : Expr}
theorem ItC.list (h : Ls X ρ e ds) : ItC X ρ tg e ds := ⟨_, pi_list pe_best, fun σ H F G R S k => h σ H F G _ S fun q vs H1 s e1 r1 => ⟨q, rfl, ⟨vs, SqL.of e1⟩, k _ H1 s fun H2 N2 s2 s3 z => by
  have hq : SqL X.K H2 q vs := SqL.of (s2 _ _ e1)
  refine ⟨fun i d hi => ?_, ⟨vs, hq, by rw [r1.len]; exact Nat.le_refl _⟩⟩
  obtain ⟨v, e2, r2⟩ := (r1.sm s3).get hi
  refine ⟨⟨vs, v, hq, e2⟩, fun x H' y => ?_⟩
  obtain ⟨y1, y2⟩ := y
  subst y1
  have e3 := y2 vs hq
  rw [e2] at e3
  cases e3
  exact ⟨.refl _, r2⟩⟩⟩
theorem ItF.list (h : Ev X ρ e (.sh (.lst ds))) : ItF X ρ tg e ds := ⟨_, pi_list pe_best, fun σ H F G R S k => h σ H F G _ S fun v H1 E r => by
  have r' := r.rt
  cases r' with
  | sh r' =>
    cases r' with
    | @lst q vs _ e1 r1 =>
      refine ⟨q, rfl, ⟨vs, SqL.of (del_some e1).2⟩, k _ H1 r.sm fun H2 N2 s3 z => ?_⟩
      have hq : SqL X.K H2 q vs := SqL.of (del_some (s3 _ _ e1)).2
      refine ⟨fun i d hi => ?_, ⟨vs, hq, by rw [r1.len]; exact Nat.le_refl _⟩⟩
      obtain ⟨v, e2, r2⟩ := (r1.sm s3).get hi
      refine ⟨⟨vs, v, hq, e2⟩, fun x H' y => ?_⟩
      obtain ⟨y1, y2⟩ := y
      subst y1
      have e3 := y2 vs hq
      rw [e2] at e3
      cases e3
      exact ⟨.refl _, r2⟩⟩
/-- the numbers from lo on -/
noncomputable def rngD (lo : Int) (n : Nat) : List D := (List.range n).map fun i => .int (lo + (i : Nat))
theorem rng_get {lo : Int} {n i : Nat} {d : D} (h : (rngD lo n)[i]? = some d) : i < n ∧ d = .int (lo + (i : Nat)) := by
  unfold rngD at h
  rw [List.getElem?_map] at h
  by_cases q : i < n
  · rw [List.getElem?_range q] at h
    cases h
    exact ⟨q, rfl⟩
  · rw [List.getElem?_eq_none (by rw [List.length_range]; omega)] at h
    cases h
theorem rng_len {lo : Int} {n : Nat} : (rngD lo n).length = n := by
  unfold rngD
  rw [List.length_map, List.length_range]
theorem jsp_rng {K : PySem.W.Frag} {lo : Int} {n : Nat} {H : Hp} {N : List Addr} : Jsp K (Itr lo n) (rngD lo n) H N := by
  refine ⟨fun i d hi => ?_, by show n ≤ _; rw [rng_len]; exact Nat.le_refl _⟩
  obtain ⟨h1, rfl⟩ := rng_get hi
  refine ⟨h1, fun x H' y => ?_⟩
  obtain ⟨rfl, rfl⟩ := y
  exact ⟨.refl _, .int _⟩
theorem ItF.range1 {j : Int} (hX : XF M N sc fc k X) (hm : M.mg "range" = none) (ha : Rd X ρ a (.int j)) (h1 : -(2 ^ 62) ≤ j) (h2 : j < 2 ^ 62) (hs : starEach (a :: []) X.env = (false, eval a X.env) :: starEach [] X.env := by rfl) (hg : glB sc "range" = true := by decide +kernel) :
    ItF X ρ tg (.Call (.Name "range" p) [a] [] pos) (rngD 0 j.toNat) := ⟨_, pi_range1 (hX.gl hg).1 (by rw [hX.m]; exact hm) pa_best hs, fun σ H F G R S k => RdA.one ha hs σ H F G _ S fun vs H1 s r => by
  obtain ⟨v, rfl, r'⟩ := r.one
  rw [r'.intE]
  exact ⟨j, rfl, h1, h2, k _ H1 s fun H2 N2 _ _ => jsp_rng⟩⟩
theorem ItF.range2 {i j : Int} (hX : XF M N sc fc k X) (hm : M.mg "range" = none) (ha : Rd X ρ a (.int i)) (hb : Rd X ρ b (.int j)) (h : -(2 ^ 62) ≤ i ∧ i < 2 ^ 62 ∧ -(2 ^ 62) ≤ j ∧ j < 2 ^ 62)
    (hs : starEach (a :: [b]) X.env = (false, eval a X.env) :: starEach [b] X.env := by rfl) (hs2 : starEach (b :: []) X.env = (false, eval b X.env) :: starEach [] X.env := by rfl) (hg : glB sc "range" = true := by decide +kernel) :
    ItF X ρ tg (.Call (.Name "range" p) [a, b] [] pos) (rngD i (j - i).toNat) := ⟨_, pi_range2 (hX.gl hg).1 (by rw [hX.m]; exact hm) pa_best (by rw [hs, hs2]; rfl) hs2, fun σ H F G R S k => RdA.cons ha (RdA.one hb hs2) hs σ H F G _ S fun vs H1 s r => by
  obtain ⟨v, w, rfl, r1, r2⟩ := r.two
  rw [r1.intE, r2.intE]
  exact ⟨i, j, rfl, h, k _ H1 s fun H2 N2 _ _ => jsp_rng⟩⟩
/-- pairs -/
noncomputable def zipD (ds ds' : List D) : List D := List.zipWith (fun x y => .tup [x, y]) ds ds'
theorem zip_get : ∀ {ds ds' : List D} {i : Nat} {d : D}, (zipD ds ds')[i]? = some d → ∃ x y, ds[i]? = some x ∧ ds'[i]? = some y ∧ d = .tup [x, y]
  | [], _, _, _, h => by simp [zipD] at h
  | _ :: _, [], _, _, h => by simp [zipD] at h
  | x :: ds, y :: ds', 0, d, h => by
    simp [zipD] at h
    exact ⟨x, y, rfl, rfl, h.symm⟩
  | x :: ds, y :: ds', i + 1, d, h => by
    obtain ⟨u, v, h1, h2, h3⟩ := zip_get (ds := ds) (ds' := ds') (i := i) (d := d) (by simpa [zipD] using h)
    exact ⟨u, v, by simpa using h1, by simpa using h2, h3⟩
theorem jsp_zip {K : PySem.W.Frag} {H : Hp} {N : List Addr} {q q' : Addr} {vs ws : List V} (h1 : SqL K H q vs) (h2 : SqL K H q' ws) (r1 : Rps K (del N H) vs ds) (r2 : Rps K (del N H) ws ds') (z : ∀ a ∈ N, ∃ o, H a = some o) : Jsp K (Itz K q q') (zipD ds ds') H N := by
  refine ⟨fun i d hi => ?_, ⟨vs, ws, h1, h2, ?_⟩⟩
  · obtain ⟨x, y, e1, e2, rfl⟩ := zip_get hi
    obtain ⟨v, e3, p1⟩ := r1.get e1
    obtain ⟨w, e4, p2⟩ := r2.get e2
    refine ⟨⟨vs, ws, v, w, h1, h2, e3, e4⟩, fun u H' yl => ?_⟩
    obtain ⟨T, x', y', rfl, hT, rfl, f1, f2⟩ := yl
    have g1 := f1 _ h1
    have g2 := f2 _ h2
    rw [e3] at g1
    rw [e4] at g2
    cases g1
    cases g2
    have s := same_upd (o := .tup [v, w]) hT
    refine ⟨s, .tup (SqT.of (xs := [v, w]) ((del_out fun m => ?_).trans upd_same)) (.cons (p1.sm (del_sm s)) (.cons (p2.sm (del_sm s)) .nil))⟩
    obtain ⟨o, m⟩ := z T m
    rw [hT] at m
    cases m
  · unfold zipD
    rw [List.length_zipWith, r1.len, r2.len]
    omega
theorem ItC.zip (hX : XF M N sc fc k X) (hm : M.mg "zip" = none) (ha : Ls X ρ a ds) (hb : Ls X ρ b ds') {elts : List Expr} {kk : Nat} {tpos : Pos} (hs : starEach (a :: [b]) X.env = (false, eval a X.env) :: starEach [b] X.env := by rfl) (hs2 : starEach (b :: []) X.env = (false, eval b X.env) :: starEach [] X.env := by rfl)
    (hpl : (backTo pos (starEach [b] X.env)).any (·.1) = false := by rfl) (hg : glB sc "zip" = true := by decide +kernel) :
    ItC X ρ (.Tuple elts kk tpos) (.Call (.Name "zip" p) [a, b] [] pos) (zipD ds ds') := ⟨_, pi_zip (hX.gl hg).1 (by rw [hX.m]; exact hm) (pa_cons pe_best (pa_cons pe_best pa_nil hs2) hs) hs hpl, fun σ H F G R S k =>
  ha σ H F G _ S fun q vs H1 s1 e1 r1 => hb σ H1 F G _ (S.sm s1) fun q' ws H2 s2 e2 r2 =>
    ⟨q, q', vs, ws, rfl, SqL.of (s2 _ _ e1), SqL.of e2, k _ H2 (s1.trans s2) fun H3 N3 s3 s4 z => jsp_zip (SqL.of (s3 _ _ (s2 _ _ e1))) (SqL.of (s3 _ _ e2)) ((r1.sm (del_sm s2)).sm s4) (r2.sm s4) z⟩⟩
theorem Res.lstE {K : PySem.W.Frag} {NN : List Addr} {H H' : Hp} {v : V} {E : List Addr} (r : Res K NN H H' v (.sh (.lst ds)) E) : ∃ q vs, v = .ref q ∧ del NN H' q = some (.lst vs) ∧ Rps K (del NN H') vs ds := by
  have r' := r.rt
  cases r' with
  | sh r' =>
    cases r' with
    | @lst q vs _ e1 r1 => exact ⟨q, vs, rfl, e1, r1⟩
/-- numbered -/
noncomputable def enumD (ds : List D) : List D := zipD (rngD 0 ds.length) ds
theorem ItF.enum (hX : XF M N sc fc k X) (hm : M.mg "enumerate" = none) (ha : Ev X ρ a (.sh (.lst ds))) {elts : List Expr} {kk : Nat} {tpos : Pos} (hs : starEach (a :: []) X.env = (false, eval a X.env) :: starEach [] X.env := by rfl) (hg : glB sc "enumerate" = true := by decide +kernel) :
    ItF X ρ (.Tuple elts kk tpos) (.Call (.Name "enumerate" p) [a] [] pos) (enumD ds) := ⟨_, pi_enum (hX.gl hg).1 (by rw [hX.m]; exact hm) (pa_cons pe_best pa_nil hs) hs, fun σ H F G R S k =>
  ha σ H F G _ S fun v H1 E r1 => by
    obtain ⟨q, vs, rfl, e1, p1⟩ := r1.lstE
    refine ⟨q, vs, rfl, SqL.of (del_some e1).2, k _ H1 r1.sm fun H3 N3 s4 z => ?_⟩
    have hq : SqL X.K H3 q vs := SqL.of (del_some (s4 _ _ e1)).2
    have pl := p1.len
    refine ⟨fun i d hi => ?_, ⟨vs, hq, ?_⟩⟩
    · obtain ⟨x, y, e2, e3, rfl⟩ := zip_get hi
      obtain ⟨_, rfl⟩ := rng_get e2
      obtain ⟨w, e4, p2⟩ := (p1.sm s4).get e3
      refine ⟨⟨vs, w, hq, e4⟩, fun u H' yl => ?_⟩
      obtain ⟨T, x', rfl, hT, rfl, f1⟩ := yl
      have g1 := f1 _ hq
      rw [e4] at g1
      cases g1
      have s := same_upd (o := .tup [.int (i : Nat), w]) hT
      refine ⟨s, .tup (SqT.of (xs := [.int (i : Nat), w]) ((del_out fun m => ?_).trans upd_same)) (.cons ?_ (.cons (p2.sm (del_sm s)) .nil))⟩
      · obtain ⟨o, m⟩ := z T m
        rw [hT] at m
        cases m
      · rw [Int.zero_add]
        exact .int _
    · unfold enumD zipD
      rw [List.length_zipWith, rng_len, pl]
      omega⟩
/-! ### comprehensions -/
structure bestP (X : Cx) (ifs : List Expr) (σ : L2.St) (H : Hp) (Q : Bool → Hp → Prop) : Prop where
  run : ∀ (pins : List (Addr × Obj)) (s : Shared), Inv X pins σ H s →
    wpAny (model X.prog X.w) X.A (forIn ifs true fun c r => if r = true then do let ok ← isTrue c X.env (eval c X.env); pure (ForInStep.yield ok) else pure (ForInStep.yield r)) (TP X pins σ Q) X.xe s
theorem bestP.of {ifs : List Expr} {t : TT} (h : PTs X ifs t) {σ : L2.St} {H : Hp} {Q : Bool → Hp → Prop} (q : t σ H Q) : bestP X ifs σ H Q := ⟨fun pins s I => h.run pins s σ H Q I q⟩
/-- a clause's tests -/
noncomputable def Tf (X : Cx) (ρ : Rho) (ifs : List Expr) (b : Bool) : Prop := ∀ (σ : L2.St) (H : Hp) (F G : List Addr) (Q : Bool → Hp → Prop), S3 X.K G σ H ρ F → (∀ H', Same H H' → Q b H') → bestP X ifs σ H Q
theorem Tf.nil : Tf X ρ [] true := fun σ H F G Q S k => bestP.of pts_nil (k H (.refl _))
theorem Tf.one {q : Bool} (h : Te X ρ a q) : Tf X ρ [a] q := fun σ H F G Q S k => bestP.of (pts_one pt_best) (h σ H F G Q S k)
/-- what the blocks of a comprehension are -/
noncomputable abbrev Blk (X : Cx) (scope : Scope) (X' : Cx) : Prop := ∃ (s : Shared) (H : Hp) (C : Addr) (cl : List (Str × Addr)) (fp : List Addr), X' = X.blk s H scope (compEnvC scope cl C X.env) fp
noncomputable def fcB (scope : Scope) : Str → Bool := fun x => scope.names.lookup x == some .cell
theorem XF.blk {scope : Scope} {X' : Cx} (hX : XF M N sc fc k X) (h : Blk X scope X') : XF M N (relS scope sc) (fcB scope) k X' := by
  obtain ⟨s, H, C, cl, fp, rfl⟩ := h
  exact ⟨hX.p, hX.w, hX.K, hX.m, hX.b, hX.n, by rw [← hX.s]; rfl, hX.nd, hX.calm, rfl, hX.room, rfl, hX.gd⟩
/-- the block's own slots forgotten -/
noncomputable def wipeR (ρ : Rho) : List Nat → Rho
  | [] => ρ
  | v :: vs => (wipeR ρ vs).set v none
theorem RO.wipe1 {K : PySem.W.Frag} {R H : Hp} : ∀ {ρ : Rho} {σ : L2.St} {F : List Addr} (i : Nat), RO K R H σ ρ F → fre ρ i = true → RO K R H (σ.set i none) (ρ.set i none) F := by
  intro ρ σ F i h
  induction h generalizing i with
  | nil => intro _; exact .nil
  | @no o σ ρ G h ih =>
    intro f
    cases i with
    | zero => exact RO.no h
    | succ i => exact .no (ih i f)
  | @yes v t σ ρ F G rt h ih =>
    intro f
    cases i with
    | zero =>
      have f' : fre (some t :: ρ) 0 = true := f
      cases rt with
      | sh _ => exact RO.no h
      | lst _ _ => cases f'
      | obj _ _ => cases f'
      | dic _ _ => cases f'
      | regT _ _ _ => cases f'
    | succ i => exact .yes rt (ih i f)
theorem fre_wipe1 {i j : Nat} (h : fre ρ j = true) : fre (ρ.set i none) j = true := by
  unfold fre
  by_cases e : i = j
  · subst e
    by_cases l : i < ρ.length
    · rw [List.getElem?_set_self l]
    · rw [List.getElem?_eq_none (by rw [List.length_set]; omega)]
  · rw [List.getElem?_set_ne e]
    exact h
theorem fre_wipe {j : Nat} (h : fre ρ j = true) : ∀ vs : List Nat, fre (wipeR ρ vs) j = true
  | [] => h
  | v :: vs => fre_wipe1 (fre_wipe h vs)
theorem RO.wipe {K : PySem.W.Frag} {R H : Hp} {σ : L2.St} {F : List Addr} (h : RO K R H σ ρ F) : ∀ {vs : List Nat}, (∀ i ∈ vs, fre ρ i = true) → RO K R H (wipe σ vs) (wipeR ρ vs) F
  | [], _ => h
  | v :: vs, f => (RO.wipe h fun i hi => f i (List.mem_cons_of_mem _ hi)).wipe1 v (fre_wipe (f v (List.mem_cons_self ..)) vs)
theorem RTs.snoc {K : PySem.W.Frag} {R H : Hp} : ∀ {ts : List T} {vs : List V} {E E2 : List Addr} {v : V} {t : T}, RTs K R H vs ts E → RT K R H v t E2 → RTs K R H (vs ++ [v]) (ts ++ [t]) (E ++ E2)
  | [], _, _, E2, v, t, h, r => by
    cases h
    have := RTs.cons r (RTs.nil (K := K) (R := R) (H := H))
    rw [List.append_nil] at this
    exact this
  | t :: ts, _, _, E2, v, u, h, r => by
    cases h with
    | cons h1 h2 =>
      rw [List.append_assoc]
      exact .cons h1 (RTs.snoc h2 r)
theorem fm_take {us : List (Option T)} {i : Nat} {u : Option T} (h : us[i]? = some u) : (us.take (i + 1)).filterMap id = (us.take i).filterMap id ++ u.toList := by
  rw [List.take_add_one, h, List.filterMap_append]
  cases u <;> rfl
theorem fm_len (us : List (Option T)) (i : Nat) : ((us.take i).filterMap id).length ≤ i :=
  Nat.le_trans (List.length_filterMap_le _ _) (by rw [List.length_take]; omega)
/-- the reading of a comprehension -/
theorem lc_core3 {tgt : Tg} {vs : List Nat} {scope : Scope} {elt : Expr} {ifs : List Expr} {us : List (Option T)} {J : It} {σ : L2.St} {H H1 : Hp} {F G : List Addr} {Q : VK} (S : S3 X.K G σ H ρ F) (s1 : Same H H1)
    (hJ : ∀ H2 N2, Same H1 H2 → Same (del (F ++ G) H1) (del N2 H2) → (∀ a ∈ N2, ∃ o, H2 a = some o) → Jsp X.K J ds H2 N2)
    (hf : ∀ i ∈ vs, fre ρ i = true) (hv : ∀ i ∈ tgt.is, i ∈ vs) (hl : us.length = ds.length) (hz : ds.length ≤ sizeLine) (hok : ∀ d ∈ ds, tgt.ok d = true)
    (step : ∀ (i : Nat) (d : D) (u : Option T) (X' : Cx), Blk X scope X' → ds[i]? = some d → us[i]? = some u → Tf X' (tgt.asg d (wipeR ρ vs)) ifs u.isSome ∧ ∀ t, u = some t → Ev X' (tgt.asg d (wipeR ρ vs)) elt t)
    (k : ∀ D H' E, Res X.K (F ++ G) H H' (.ref D) (.lst (us.filterMap id)) E → Q (.ref D) H') :
    ∀ D, H1 D = none → ∃ W : Nat → Nat → Hp → Prop, (∃ m, W 0 m (upd H1 D (.lst []))) ∧ ∀ i m H, W i m H →
      (J.stop i H ∧ Q (.ref D) H) ∨ (J.go i H ∧ ∃ Nx : Hp → Prop, (∀ H', Nx H' → ∃ m', m' < m ∧ W (i + 1) m' H') ∧ ∀ x H', J.yld i H x H' → tgt.g X.K x (wipe σ vs) H' fun σ2 H2 => wipe σ2 vs = wipe σ vs ∧
        (fun σ H Q => ∀ X', Blk X scope X' → bestP X' ifs σ H Q : TT) σ2 H2 fun b H3 => if b = true then (fun σ H Q => ∀ X', Blk X scope X' → best X' elt σ H Q : TE) σ2 H3 fun y H4 => ∃ acc, H4 D = some (.lst acc) ∧ acc.length < sizeLine ∧ Nx (upd H4 D (.lst (acc ++ [y]))) else Nx H3) := by
  intro D hD
  have S1 := S.sm s1
  have hDF : D ∉ F ++ G := fun z => by
    obtain ⟨o, e⟩ := S1.fs D z
    rw [hD] at e
    cases e
  let W : Nat → Nat → Hp → Prop := fun i m H => ∃ ws E, m = ds.length - i ∧ i ≤ ds.length ∧ Same H1 H ∧ H D = some (.lst ws) ∧ RTs X.K (del (F ++ ((E ++ [D]) ++ G)) H) H ws ((us.take i).filterMap id) E ∧ (∀ a ∈ E, H1 a = none) ∧ (E ++ [D]).Nodup
  refine ⟨W, ⟨_, [], [], rfl, Nat.zero_le _, same_upd hD, upd_same, .nil, (fun a z => nomatch z), by simp⟩, ?_⟩
  rintro i m H2 ⟨ws, E, rfl, hi, s2, eD, rE, fE, nE⟩
  have hfr : ∀ a ∈ E ++ [D], H1 a = none := fun a ha => (List.mem_append.mp ha).elim (fE a) fun z => by
    rw [List.mem_singleton.mp z]
    exact hD
  have hso : ∀ a ∈ E ++ [D], ∃ o, H2 a = some o := fun a ha => (List.mem_append.mp ha).elim (rE.fs a) fun z => by
    rw [List.mem_singleton.mp z]
    exact ⟨_, eD⟩
  have S2 : S3 X.K ((E ++ [D]) ++ G) σ H2 ρ F := S1.ext s2 hfr nE hso
  have hN : ∀ a ∈ F ++ ((E ++ [D]) ++ G), a ∈ F ++ G ∨ H1 a = none := fun a ha => by
    rcases List.mem_append.mp ha with z | z
    · exact .inl (List.mem_append_left _ z)
    · rcases List.mem_append.mp z with z | z
      · exact .inr (hfr a z)
      · exact .inl (List.mem_append_right _ z)
  have j := hJ H2 (F ++ ((E ++ [D]) ++ G)) s2 (del_new s2 hN) S2.fs
  by_cases hlt : i < ds.length
  · obtain ⟨d, hd⟩ : ∃ d, ds[i]? = some d := ⟨_, List.getElem?_eq_getElem hlt⟩
    obtain ⟨u, hu⟩ : ∃ u, us[i]? = some u := ⟨_, List.getElem?_eq_getElem (hl ▸ hlt)⟩
    obtain ⟨jg, jy⟩ := j.go i d hd
    refine .inr ⟨jg, W (i + 1) (ds.length - (i + 1)), fun H' w => ⟨_, by omega, w⟩, fun x H3 y => ?_⟩
    obtain ⟨s3, rx⟩ := jy x H3 y
    have S3' : S3 X.K ((E ++ [D]) ++ G) σ H3 ρ F := S2.sm s3
    have S4 : S3 X.K ((E ++ [D]) ++ G) (wipe σ vs) H3 (wipeR ρ vs) F := ⟨S3'.ro.wipe hf, S3'.nd, S3'.gs⟩
    refine tgt.run vs S4 rx (hok d (List.mem_of_getElem? hd)) (fun i hi => fre_wipe (hf i (hv i hi)) vs) fun σ2 S5 hw => ?_
    refine ⟨?_, fun X' bX => ?_⟩
    · rw [hw hv]
      have : ∀ {vs ws : List Nat} {σ : L2.St}, (∀ i ∈ vs, i ∈ ws) → wipe (wipe σ vs) ws = wipe σ ws := by
        intro vs
        induction vs with
        | nil => intro ws σ _; rfl
        | cons v vs ih =>
          intro ws σ h
          show wipe ((wipe σ vs).set v none) ws = _
          rw [wipe_set (h v (List.mem_cons_self ..))]
          exact ih fun i hi => h i (List.mem_cons_of_mem _ hi)
      exact this fun i hi => hi
    have eK : X'.K = X.K := by
      obtain ⟨s, H, C, cl, fp, rfl⟩ := bX
      rfl
    obtain ⟨st, sv⟩ := step i d u X' bX hd hu
    refine st σ2 H3 F _ _ (eK ▸ S5) fun H4 s4 => ?_
    have s14 : Same H1 H4 := s2.trans (s3.trans s4)
    cases u with
    | none =>
      show if false = true then _ else _
      rw [if_neg Bool.false_ne_true]
      refine ⟨ws, E, rfl, by omega, s14, s4 _ _ (s3 _ _ eD), ?_, fE, nE⟩
      rw [fm_take hu]
      show RTs _ _ _ _ (_ ++ []) _
      rw [List.append_nil]
      exact rE.sm (del_sm (s3.trans s4)) (.of (s3.trans s4))
    | some t =>
      show if true = true then _ else _
      rw [if_pos rfl]
      intro X'' bX''
      have eK2 : X''.K = X.K := by
        obtain ⟨s, H, C, cl, fp, rfl⟩ := bX''
        rfl
      refine (step i d (some t) X'' bX'' hd hu).2 t rfl σ2 H4 F ((E ++ [D]) ++ G) _ (eK2 ▸ S5.sm s4) fun y H5 E2 r => ?_
      rw [eK2] at r
      have s5 := s14.trans r.sm
      have eD5 : H5 D = some (.lst ws) := r.sm _ _ (s4 _ _ (s3 _ _ eD))
      have hD2 : D ∉ E2 := fun z => by
        have := r.fr D z
        rw [s4 _ _ (s3 _ _ eD)] at this
        cases this
      have hDE : D ∉ E := fun z => (List.nodup_append.mp nE).2.2 D z D (List.mem_singleton_self _) rfl
      have lw : ws.length ≤ i := by
        rw [rE.len]
        exact fm_len us i
      refine ⟨ws, eD5, by omega, ws ++ [y], E ++ E2, rfl, by omega, fun b o e => ?_, upd_same, ?_, fun a ha => ?_, ?_⟩
      · rw [upd_ne (ne_of_none e hD)]
        exact s5 _ _ e
      · rw [fm_take hu]
        show RTs _ _ _ _ (_ ++ [t]) _
        have sub1 : Same (del (F ++ ((E ++ [D]) ++ G)) H2) (del (F ++ (((E ++ E2) ++ [D]) ++ G)) (upd H5 D (.lst (ws ++ [y])))) := fun b o q => by
          obtain ⟨q1, q2⟩ := del_some q
          have hb : b ∉ F ++ (((E ++ E2) ++ [D]) ++ G) := fun z => by
            simp only [List.mem_append] at z q1
            rcases z with z | ((z | z) | z) | z
            · exact q1 (.inl z)
            · exact q1 (.inr (.inl (.inl z)))
            · have := r.fr b z
              rw [s4 _ _ (s3 _ _ q2)] at this
              cases this
            · exact q1 (.inr (.inl (.inr z)))
            · exact q1 (.inr (.inr z))
          rw [del_out hb, upd_ne fun z => q1 (by rw [z]; simp)]
          exact r.sm _ _ (s4 _ _ (s3 _ _ q2))
        refine RTs.snoc (rE.sm sub1 fun a ha o q => ?_) (r.rt.sm (fun b o q => ?_) fun a ha o q => ?_)
        · rw [upd_ne (show a ≠ D from fun z => hDE (z ▸ ha))]
          exact r.sm _ _ (s4 _ _ (s3 _ _ q))
        · obtain ⟨q1, q2⟩ := del_some q
          have hb : b ∉ F ++ (((E ++ E2) ++ [D]) ++ G) := fun z => by
            simp only [List.mem_append] at z q1
            rcases z with z | ((z | z) | z) | z
            · exact q1 (.inr (.inl z))
            · exact q1 (.inr (.inr (.inl (.inl z))))
            · exact q1 (.inl z)
            · exact q1 (.inr (.inr (.inl (.inr z))))
            · exact q1 (.inr (.inr (.inr z)))
          rw [del_out hb, upd_ne fun z => q1 (by rw [z]; simp)]
          exact q2
        · rw [upd_ne (show a ≠ D from fun z => hD2 (z ▸ ha))]
          exact q
      · rcases List.mem_append.mp ha with z | z
        · exact fE a z
        · exact s14.free (r.fr a z)
      · refine List.nodup_append.mpr ⟨List.nodup_append.mpr ⟨(List.nodup_append.mp nE).1, r.nd, fun a ha b hb e => ?_⟩, by simp, fun a ha b hb e => ?_⟩
        · subst e
          obtain ⟨o, q⟩ := rE.fs a ha
          have := r.fr a hb
          rw [s4 _ _ (s3 _ _ q)] at this
          cases this
        · rw [List.mem_singleton.mp hb] at e
          subst e
          exact (List.mem_append.mp ha).elim hDE hD2
  · have e : i = ds.length := by omega
    subst e
    refine .inl ⟨j.stop, k D H2 (D :: E) ⟨s1.trans s2, fun a ha => ?_, ?_, .lst eD ?_⟩⟩
    · rcases List.mem_cons.mp ha with z | z
      · rw [z]
        exact s1.free hD
      · exact s1.free (fE a z)
    · have := List.nodup_append.mp nE
      exact List.nodup_cons.mpr ⟨fun z => this.2.2 D z D (List.mem_singleton_self _) rfl, this.1⟩
    · have ht : us.take ds.length = us := List.take_of_length_le (by omega)
      rw [ht] at rE
      exact rE.less (del_sub fun a ha => by
        simp only [List.mem_append, List.mem_cons, List.mem_singleton, List.not_mem_nil, or_false] at ha ⊢
        rcases ha with (z | z) | (z | z)
        · exact .inr (.inl (.inr z))
        · exact .inr (.inl (.inl z))
        · exact .inl z
        · exact .inr (.inr z))
end
section
variable {M : Md} {N : List Str} {sc : Scope} {fc : Str → Bool} {k : Nat} {X : Cx} {ρ : Rho} {e a b c : Expr} {es : List Expr} {t : T} {ts : List T} {d : D} {ds ds' : List D} {pos p p1 p2 p3 : Pos} {x y : Str} {tg iter elt : Expr} {scope : Scope}
theorem XF.pg1 (hX : XF M N sc fc k X) (i : Nat) (hN : N[i]? = some x) (h : locB sc fc x = true) {K : PySem.W.Frag} : PG X (.Name x pos) ((Tg.one i).g K) := hX.pg i hN h
theorem XF.pg2 (hX : XF M N sc fc k X) (i j : Nat) (hN : N[i]? = some x) (h : locB sc fc x = true) (hN2 : N[j]? = some y) (h2 : locB sc fc y = true) {kk : Nat} {K : PySem.W.Frag} (hK : X.K = K) : PG X (.Tuple [.Name x p1, .Name y p2] kk pos) ((Tg.tup [i, j]).g K) := by
  subst hK
  exact pg_tup hX.calm (pgs_cons (hX.pg i hN h) (pgs_cons (hX.pg j hN2 h2) pgs_nil))
/-- the reading of any comprehension, in both of its places -/
theorem lc_tLc {tgt : Tg} {vs : List Nat} {ifs : List Expr} {us : List (Option T)} {wi : TI} (hwi : ∀ (σ : L2.St) (H : Hp) (F G : List Addr) (R : It → Hp → Prop), S3 X.K G σ H ρ F →
  (∀ J H1, Same H H1 → (∀ H2 N2, Same H1 H2 → Same (del (F ++ G) H1) (del N2 H2) → (∀ a ∈ N2, ∃ o, H2 a = some o) → Jsp X.K J ds H2 N2) → R J H1) → wi σ H R)
    (hf : ∀ i ∈ vs, fre ρ i = true) (hv : ∀ i ∈ tgt.is, i ∈ vs) (hl : us.length = ds.length) (hz : ds.length ≤ sizeLine) (hok : ∀ d ∈ ds, tgt.ok d = true)
    (step : ∀ (i : Nat) (d : D) (u : Option T) (X' : Cx), Blk X scope X' → ds[i]? = some d → us[i]? = some u → Tf X' (tgt.asg d (wipeR ρ vs)) ifs u.isSome ∧ ∀ t, u = some t → Ev X' (tgt.asg d (wipeR ρ vs)) elt t)
    {σ : L2.St} {H : Hp} {F G : List Addr} {Q : VK} (S : S3 X.K G σ H ρ F) (kk : ∀ v H' E, Res X.K (F ++ G) H H' v (.lst (us.filterMap id)) E → Q v H') :
    tLc wi (tgt.g X.K) (fun σ H Q => ∀ X', Blk X scope X' → bestP X' ifs σ H Q) (fun σ H Q => ∀ X', Blk X scope X' → best X' elt σ H Q) vs σ H Q :=
  hwi σ H F G _ S fun J H1 s1 hJ => lc_core3 (scope := scope) S s1 hJ hf hv hl hz hok step fun D H' E r => kk _ H' E r
theorem blk_pts {ifs : List Expr} (s : Shared) (H : Hp) (C : Addr) (cl : List (Str × Addr)) (fp : List Addr) : PTs (X.blk s H scope (compEnvC scope cl C X.env) fp) ifs (fun σ H Q => ∀ X', Blk X scope X' → bestP X' ifs σ H Q) :=
  ⟨fun pins s' σ H' Q I h => (h _ ⟨s, H, C, cl, fp, rfl⟩).run pins s' I⟩
theorem blk_pe (s : Shared) (H : Hp) (C : Addr) (cl : List (Str × Addr)) (fp : List Addr) : PE (X.blk s H scope (compEnvC scope cl C X.env) fp) elt (fun σ H Q => ∀ X', Blk X scope X' → best X' elt σ H Q) :=
  ⟨fun pins s' σ H' Q I h => (h _ ⟨s, H, C, cl, fp, rfl⟩).run pins s' I⟩
theorem blk_of {own : List (Str × Nat)} (hX : XF M N sc fc k X) (h : blkC N sc scope own = true) : BlkOk X.N X.env.scope scope own := by
  rw [hX.n, hX.s]
  exact blkOk_by h
/-- [elt for tg in iter if ..] -/
theorem Ev.lc {own : List (Str × Nat)} {tgt : Tg} {ifs : List Expr} {us : List (Option T)} (hX : XF M N sc fc k X) (hi : ItC X ρ tg iter ds) (ok : blkC N sc scope own = true) (hg : ∀ X', Blk X scope X' → PG X' tg (tgt.g X.K))
    (hf : ∀ i ∈ own.map (·.2), fre ρ i = true) (hv : ∀ i ∈ tgt.is, i ∈ own.map (·.2)) (hl : us.length = ds.length) (hz : ds.length ≤ sizeLine) (hok : ∀ d ∈ ds, tgt.ok d = true)
    (step : ∀ (i : Nat) (d : D) (u : Option T) (X' : Cx), Blk X scope X' → ds[i]? = some d → us[i]? = some u → Tf X' (tgt.asg d (wipeR ρ (own.map (·.2)))) ifs u.isSome ∧ ∀ t, u = some t → Ev X' (tgt.asg d (wipeR ρ (own.map (·.2)))) elt t)
    (hs : ∀ x, foldedSetIterable iter X.env x = pure x := by intro _; rfl) : Ev X ρ (.ListComp elt [⟨tg, iter, ifs, 0⟩] scope pos) (.lst (us.filterMap id)) := by
  obtain ⟨wi, pi, hwi⟩ := hi
  exact fun σ H F G Q S kk => best.of (pe_lc hX.calm (by rw [hX.n]; exact hX.nd) pi (blk_of hX ok) (fun s H C cl fp => hg _ ⟨s, H, C, cl, fp, rfl⟩) (fun s H C cl fp => blk_pts s H C cl fp) (fun s H C cl fp => blk_pe s H C cl fp) hs)
    (lc_tLc hwi hf hv hl hz hok step S kk)
theorem fm_some {α : Type} (g : α → T) : ∀ xs : List α, (xs.map fun x => some (g x)).filterMap id = xs.map g
  | [] => rfl
  | x :: xs => by
    rw [List.map_cons, List.filterMap_cons_some (f := id) rfl, fm_some g xs, List.map_cons]
theorem fm_filter {α : Type} (g : α → T) (q : α → Bool) : ∀ xs : List α, (xs.map fun x => if q x then some (g x) else none).filterMap id = (xs.filter q).map g
  | [] => rfl
  | x :: xs => by
    rw [List.map_cons]
    cases h : q x with
    | true =>
      rw [if_pos rfl, List.filterMap_cons_some (f := id) rfl, fm_filter g q xs, List.filter_cons_of_pos h, List.map_cons]
    | false =>
      rw [if_neg Bool.false_ne_true, List.filterMap_cons_none (f := id) rfl, fm_filter g q xs, List.filter_cons_of_neg (by rw [h]; exact Bool.false_ne_true)]
theorem map_at {α β : Type} {f : α → β} {xs : List α} {i : Nat} {d : β} (h : (xs.map f)[i]? = some d) : ∃ x, xs[i]? = some x ∧ x ∈ xs ∧ d = f x := by
  rw [List.getElem?_map] at h
  cases q : xs[i]? with
  | none =>
    rw [q] at h
    cases h
  | some x =>
    rw [q] at h
    cases h
    exact ⟨x, rfl, List.mem_of_getElem? q, rfl⟩
/-- everything about one target -/
theorem one_hyps {own : List (Str × Nat)} {i : Nat} (hown : own = [(x, i)]) (f : fre ρ i = true) : (∀ j ∈ own.map (·.2), fre ρ j = true) ∧ (∀ j ∈ (Tg.one i).is, j ∈ own.map (·.2)) ∧ ∀ d, (Tg.one i).asg d (wipeR ρ (own.map (·.2))) = ρ.set i (some (.sh d)) := by
  subst hown
  refine ⟨fun j hj => ?_, fun j hj => hj, fun d => ?_⟩
  · rw [List.mem_singleton.mp hj]
    exact f
  · show ((ρ.set i none).set i _) = _
    rw [List.set_set]
theorem two_hyps {own : List (Str × Nat)} {i j : Nat} (hown : own = [(x, i), (y, j)]) (hij : i ≠ j) (f : fre ρ i = true) (f2 : fre ρ j = true) : (∀ j ∈ own.map (·.2), fre ρ j = true) ∧ (∀ l ∈ (Tg.tup [i, j]).is, l ∈ own.map (·.2)) ∧ ∀ d d', (Tg.tup [i, j]).asg (.tup [d, d']) (wipeR ρ (own.map (·.2))) = (ρ.set i (some (.sh d))).set j (some (.sh d')) := by
  subst hown
  refine ⟨fun l hl => ?_, fun l hl => hl, fun d d' => ?_⟩
  · rcases List.mem_cons.mp hl with e | hl
    · rw [e]
      exact f
    · rw [List.mem_singleton.mp hl]
      exact f2
  · show ((((ρ.set j none).set i none).set i (some (.sh d))).set j (some (.sh d'))) = _
    rw [List.set_set, List.set_comm none (some (T.sh d)) (Ne.symm hij), List.set_set]
theorem lcN {α : Type} {xs : List α} {en : α → D} {g : α → T} (hX : XF M N sc fc k X) (i : Nat) (hi : ItC X ρ (.Name x p) iter (xs.map en))
    (step : ∀ X', Blk X scope X' → XF M N (relS scope sc) (fcB scope) k X' → ∀ a ∈ xs, Ev X' (ρ.set i (some (.sh (en a)))) elt (g a)) (hz : xs.length ≤ sizeLine)
    (ok : blkC N sc scope [(x, i)] = true := by decide +kernel) (hN : N[i]? = some x := by rfl) (hl : locB (relS scope sc) (fcB scope) x = true := by decide +kernel) (f : fre ρ i = true := by rfl)
    (hs : ∀ x, foldedSetIterable iter X.env x = pure x := by intro _; rfl) : Ev X ρ (.ListComp elt [⟨.Name x p, iter, [], 0⟩] scope pos) (.lst (xs.map g)) := by
  obtain ⟨h1, h2, h3⟩ := one_hyps (own := [(x, i)]) (ρ := ρ) rfl f
  have := Ev.lc (pos := pos) (own := [(x, i)]) (tgt := .one i) (ifs := []) (us := xs.map fun a => some (g a)) (elt := elt) hX hi ok (fun X' b => (hX.blk b).pg1 i hN hl) h1 h2 (by rw [List.length_map, List.length_map]) (by rw [List.length_map]; exact hz) (fun _ _ => rfl) (fun j d u X' b hd hu => by
    obtain ⟨a, e1, m, rfl⟩ := map_at hd
    obtain ⟨a', e2, _, rfl⟩ := map_at hu
    rw [e1] at e2
    cases e2
    rw [h3]
    refine ⟨Tf.nil, fun t q => ?_⟩
    cases q
    exact step X' b (hX.blk b) a m) hs
  rw [fm_some] at this
  exact this
theorem lcF {α : Type} {xs : List α} {en : α → D} {g : α → T} {q : α → Bool} {cond : Expr} (hX : XF M N sc fc k X) (i : Nat) (hi : ItC X ρ (.Name x p) iter (xs.map en))
    (step : ∀ X', Blk X scope X' → XF M N (relS scope sc) (fcB scope) k X' → ∀ a ∈ xs, Te X' (ρ.set i (some (.sh (en a)))) cond (q a) ∧ (q a = true → Ev X' (ρ.set i (some (.sh (en a)))) elt (g a))) (hz : xs.length ≤ sizeLine)
    (ok : blkC N sc scope [(x, i)] = true := by decide +kernel) (hN : N[i]? = some x := by rfl) (hl : locB (relS scope sc) (fcB scope) x = true := by decide +kernel) (f : fre ρ i = true := by rfl)
    (hs : ∀ x, foldedSetIterable iter X.env x = pure x := by intro _; rfl) : Ev X ρ (.ListComp elt [⟨.Name x p, iter, [cond], 0⟩] scope pos) (.lst ((xs.filter q).map g)) := by
  obtain ⟨h1, h2, h3⟩ := one_hyps (own := [(x, i)]) (ρ := ρ) rfl f
  have := Ev.lc (pos := pos) (own := [(x, i)]) (tgt := .one i) (ifs := [cond]) (us := xs.map fun a => if q a then some (g a) else none) (elt := elt) hX hi ok (fun X' b => (hX.blk b).pg1 i hN hl) h1 h2 (by rw [List.length_map, List.length_map]) (by rw [List.length_map]; exact hz) (fun _ _ => rfl) (fun j d u X' b hd hu => by
    obtain ⟨a, e1, m, rfl⟩ := map_at hd
    obtain ⟨a', e2, _, rfl⟩ := map_at hu
    rw [e1] at e2
    cases e2
    rw [h3]
    obtain ⟨s1, s2⟩ := step X' b (hX.blk b) a m
    cases hq : q a with
    | true =>
      rw [if_pos rfl]
      rw [hq] at s1
      refine ⟨Tf.one s1, fun t z => ?_⟩
      cases z
      exact s2 hq
    | false =>
      rw [if_neg Bool.false_ne_true]
      rw [hq] at s1
      exact ⟨Tf.one s1, fun t z => nomatch z⟩) hs
  rw [fm_filter] at this
  exact this
theorem zip_map {α β : Type} (f : α → D) (g : β → D) : ∀ (xs : List α) (ys : List β), zipD (xs.map f) (ys.map g) = (xs.zip ys).map fun q => .tup [f q.1, g q.2]
  | [], _ => rfl
  | _ :: _, [] => rfl
  | x :: xs, y :: ys => by
    show .tup [f x, g y] :: zipD (xs.map f) (ys.map g) = _
    rw [zip_map f g xs ys]
    rfl
theorem lcZ {α : Type} {xs : List α} {en en' : α → D} {g : α → T} {kk : Nat} {tpos : Pos} (hX : XF M N sc fc k X) (i j : Nat) (hi : ItC X ρ (.Tuple [.Name x p1, .Name y p2] kk tpos) iter (xs.map fun a => .tup [en a, en' a]))
    (step : ∀ X', Blk X scope X' → XF M N (relS scope sc) (fcB scope) k X' → ∀ a ∈ xs, Ev X' ((ρ.set i (some (.sh (en a)))).set j (some (.sh (en' a)))) elt (g a)) (hz : xs.length ≤ sizeLine)
    (ok : blkC N sc scope [(x, i), (y, j)] = true := by decide +kernel) (hN : N[i]? = some x := by rfl) (hl : locB (relS scope sc) (fcB scope) x = true := by decide +kernel) (hN2 : N[j]? = some y := by rfl) (hl2 : locB (relS scope sc) (fcB scope) y = true := by decide +kernel) (f : fre ρ i = true := by rfl) (f2 : fre ρ j = true := by rfl) (hij : i ≠ j := by decide)
    (hs : ∀ x, foldedSetIterable iter X.env x = pure x := by intro _; rfl) : Ev X ρ (.ListComp elt [⟨.Tuple [.Name x p1, .Name y p2] kk tpos, iter, [], 0⟩] scope pos) (.lst (xs.map g)) := by
  obtain ⟨h1, h2, h3⟩ := two_hyps (own := [(x, i), (y, j)]) (ρ := ρ) rfl hij f f2
  have := Ev.lc (pos := pos) (own := [(x, i), (y, j)]) (tgt := .tup [i, j]) (ifs := []) (us := xs.map fun a => some (g a)) (elt := elt) hX hi ok (fun X' b => (hX.blk b).pg2 i j hN hl hN2 hl2 (by obtain ⟨s, H, C, cl, fp, rfl⟩ := b; rfl)) h1 h2 (by rw [List.length_map, List.length_map]) (by rw [List.length_map]; exact hz) (fun d hd => by
      obtain ⟨a, _, rfl⟩ := List.mem_map.mp hd
      rfl) (fun j d u X' b hd hu => by
    obtain ⟨a, e1, m, rfl⟩ := map_at hd
    obtain ⟨a', e2, _, rfl⟩ := map_at hu
    rw [e1] at e2
    cases e2
    rw [h3]
    refine ⟨Tf.nil, fun t q => ?_⟩
    cases q
    exact step X' b (hX.blk b) a m) hs
  rw [fm_some] at this
  exact this
end
/-! ### statements -/
structure K3 where
  nx : Rho → Prop
  rt : T → Prop := fun _ => False
  bk : Rho → Prop := fun _ => False
  ct : Rho → Prop := fun _ => False
structure bestS (X : Cx) (st : Stmt) (D : Ends) (σ : L2.St) (H : Hp) : Prop where
  run : ∀ (pins : List (Addr × Obj)) (s : Shared), Inv X pins σ H s → wpAny (model X.prog X.w) X.A (exec st X.env) (SP X pins D) X.xe s
theorem ps_best {X : Cx} {st : Stmt} : PS X st (bestS X st) := ⟨fun pins s σ H D I h => h.run pins s I⟩
theorem bestS.of {X : Cx} {st : Stmt} {t : TS} (h : PS X st t) {σ : L2.St} {H : Hp} {D : Ends} (q : t D σ H) : bestS X st D σ H := ⟨fun pins s I => h.run pins s σ H D I q⟩
structure bestSs (X : Cx) (st : List Stmt) (D : Ends) (σ : L2.St) (H : Hp) : Prop where
  run : ∀ (pins : List (Addr × Obj)) (s : Shared), Inv X pins σ H s → wpAny (model X.prog X.w) X.A (execs st X.env) (SP X pins D) X.xe s
theorem pss_best {X : Cx} {st : List Stmt} : PSs X st (bestSs X st) := ⟨fun pins s σ H D I h => h.run pins s I⟩
theorem bestSs.of {X : Cx} {st : List Stmt} {t : TS} (h : PSs X st t) {σ : L2.St} {H : Hp} {D : Ends} (q : t D σ H) : bestSs X st D σ H := ⟨fun pins s I => h.run pins s σ H D I q⟩
/-- what stands of a state behind another one -/
structure Stp (G F F' : List Addr) (H H' : Hp) : Prop where
  sh : Same (del (F ++ G) H) (del (F' ++ G) H')
  kp : Keep G H H'
theorem Stp.refl {G F : List Addr} {H : Hp} : Stp G F F H H := ⟨.refl _, fun _ _ _ h => h⟩
theorem Stp.trans {G F F1 F2 : List Addr} {H H1 H2 : Hp} (a : Stp G F F1 H H1) (b : Stp G F1 F2 H1 H2) : Stp G F F2 H H2 := ⟨a.sh.trans b.sh, fun x hx o q => b.kp x hx o (a.kp x hx o q)⟩
theorem Stp.of {G F : List Addr} {H H' : Hp} (s : Same H H') : Stp G F F H H' := ⟨del_sm s, fun a _ o q => s a o q⟩
/-- what is wanted behind -/
structure Wish (X : Cx) (K : K3) (G F : List Addr) (H : Hp) (D : Ends) : Prop where
  nx : ∀ σ' H' ρ' F', S3 X.K G σ' H' ρ' F' → Stp G F F' H H' → K.nx ρ' → D.nx σ' H'
  rt : ∀ v H' t E, RT X.K (del (E ++ G) H') H' v t E → E.Nodup → (∀ a ∈ E, a ∉ G) → Stp G F E H H' → K.rt t → D.rt v H'
  bk : ∀ σ' H' ρ' F', S3 X.K G σ' H' ρ' F' → Stp G F F' H H' → K.bk ρ' → D.bk σ' H'
  ct : ∀ σ' H' ρ' F', S3 X.K G σ' H' ρ' F' → Stp G F F' H H' → K.ct ρ' → D.ct σ' H'
theorem Wish.step {X : Cx} {K : K3} {G F F1 : List Addr} {H H1 : Hp} {D : Ends} (w : Wish X K G F H D) (s : Stp G F F1 H H1) : Wish X K G F1 H1 D :=
  ⟨fun σ' H' ρ' F' S s' => w.nx σ' H' ρ' F' S (s.trans s'), fun v H' t E r n a s' => w.rt v H' t E r n a (s.trans s'), fun σ' H' ρ' F' S s' => w.bk σ' H' ρ' F' S (s.trans s'), fun σ' H' ρ' F' S s' => w.ct σ' H' ρ' F' S (s.trans s')⟩
noncomputable def Sm (X : Cx) (ρ : Rho) (st : Stmt) (K : K3) : Prop := ∀ (σ : L2.St) (H : Hp) (F G : List Addr) (D : Ends), S3 X.K G σ H ρ F → Wish X K G F H D → bestS X st D σ H
noncomputable def Ss (X : Cx) (ρ : Rho) (st : List Stmt) (K : K3) : Prop := ∀ (σ : L2.St) (H : Hp) (F G : List Addr) (D : Ends), S3 X.K G σ H ρ F → Wish X K G F H D → bestSs X st D σ H
section
variable {M : Md} {N : List Str} {sc : Scope} {fc : Str → Bool} {k : Nat} {X : Cx} {ρ : Rho} {e a b c : Expr} {es : List Expr} {t : T} {ts : List T} {d : D} {ds ds' : List D} {pos p p1 p2 p3 : Pos} {x y : Str} {tg iter elt : Expr} {scope : Scope} {K : K3} {st : Stmt} {rest body : List Stmt}
theorem Ss.nil (h : K.nx ρ) : Ss X ρ [] K := fun σ H F G D S w => bestSs.of pss_nil (w.nx σ H ρ F S .refl h)
theorem Ss.cons (h : Sm X ρ st { K with nx := fun ρ' => Ss X ρ' rest K }) : Ss X ρ (st :: rest) K := fun σ H F G D S w =>
  bestSs.of (pss_cons ps_best pss_best) (h σ H F G _ S ⟨fun σ' H' ρ' F' S' s q => q σ' H' F' G D S' (w.step s), w.rt, w.bk, w.ct⟩)
/-- weaker ends -/
theorem Sm.mono {K' : K3} (h : Sm X ρ st K) (h1 : ∀ ρ, K.nx ρ → K'.nx ρ) (h2 : ∀ t, K.rt t → K'.rt t) (h3 : ∀ ρ, K.bk ρ → K'.bk ρ) (h4 : ∀ ρ, K.ct ρ → K'.ct ρ) : Sm X ρ st K' := fun σ H F G D S w =>
  h σ H F G D S ⟨fun σ' H' ρ' F' S' s q => w.nx σ' H' ρ' F' S' s (h1 _ q), fun v H' t E r n a s q => w.rt v H' t E r n a s (h2 _ q), fun σ' H' ρ' F' S' s q => w.bk σ' H' ρ' F' S' s (h3 _ q), fun σ' H' ρ' F' S' s q => w.ct σ' H' ρ' F' S' s (h4 _ q)⟩
/-- a slot gets another tree -/
theorem S3.put {KF : PySem.W.Frag} {G F E : List Addr} {H H' : Hp} {σ : L2.St} {v : V} (S : S3 KF G σ H ρ F) (r : Res KF (F ++ G) H H' v t E) (i : Nat) : ∃ F', S3 KF G (σ.set i (some v)) H' (ρ.set i (some t)) F' ∧ Stp G F F' H H' := by
  by_cases hi : i < ρ.length
  · obtain ⟨F1, F2, F3, e, f⟩ := S.ro.put i hi
    have nd := S.nd
    have hE : ∀ a ∈ E, a ∉ F ++ G := apart S.fs r.fr
    have sub : ∀ a ∈ (F1 ++ (E ++ F3)) ++ G, a ∈ F ++ G ∨ H a = none := fun a ha => by
      rw [e]
      simp only [List.mem_append] at ha ⊢
      rcases ha with (z | z | z) | z
      · exact .inl (.inl (.inl z))
      · exact .inr (r.fr a z)
      · exact .inl (.inl (.inr (.inr z)))
      · exact .inl (.inr z)
    refine ⟨F1 ++ (E ++ F3), ⟨f (some v) _ _ (some t) E (del_new r.sm sub) (.of r.sm) (r.rt.less (del_sub fun a ha => ?_)), ?_, fun a ha => ?_⟩, ⟨del_new r.sm sub, .of r.sm⟩⟩
    · rw [e]
      simp only [List.mem_append] at ha ⊢
      rcases ha with (z | z | z) | z
      · exact .inr (.inl (.inl z))
      · exact .inl z
      · exact .inr (.inl (.inr (.inr z)))
      · exact .inr (.inr z)
    · subst e
      simp only [List.nodup_append, List.mem_append] at nd hE ⊢
      obtain ⟨⟨n1, ⟨n2, n3, n4⟩, n5⟩, n6, n7⟩ := nd
      refine ⟨⟨n1, ⟨r.nd, n3, fun a ha b hb z => hE a ha (.inl (.inr (.inr (z ▸ hb))))⟩, fun a ha b hb z => ?_⟩, n6, fun a ha b hb z => ?_⟩
      · rcases hb with hb | hb
        · exact hE b hb (.inl (.inl (z ▸ ha)))
        · exact n5 a ha b (.inr hb) z
      · rcases ha with ha | ha | ha
        · exact n7 a (.inl ha) b hb z
        · exact hE a ha (.inr (z ▸ hb))
        · exact n7 a (.inr (.inr ha)) b hb z
    · obtain ⟨o, q⟩ := S.gs a ha
      exact ⟨o, r.sm _ _ q⟩
  · refine ⟨F, ?_, .of r.sm⟩
    rw [List.set_eq_of_length_le (show σ.length ≤ i by rw [S.ro.len]; omega), List.set_eq_of_length_le (show ρ.length ≤ i by omega)]
    exact S.sm r.sm
noncomputable def isComp : Expr → Bool
  | .ListComp .. => true
  | .SetComp .. => true
  | .DictComp .. => true
  | _ => false
theorem sw_no {e : Expr} {t : Option Expr} {l : Nat} {env : Env} (h : isComp e = false) : swapsWith e t l env = pure false := by
  cases e <;> first | rfl | cases h
/-- x = e -/
theorem Sm.set (hX : XF M N sc fc k X) (i : Nat) (he : Ev X ρ e t) (h : K.nx (ρ.set i (some t))) (hN : N[i]? = some x := by rfl) (hl : locB sc fc x = true := by decide +kernel)
    (hs : swapsWith e (some (.Name x p)) pos.line X.env = pure false := by exact sw_no rfl) : Sm X ρ (.Assign [.Name x p] e pos) K := fun σ H F G D S w => by
  obtain ⟨l1, l2⟩ := hX.loc hl
  exact bestS.of (ps_set (by rw [hX.n]; exact hX.nd) (by rw [hX.n]; exact hN) l1 pe_best hs l2) (he σ H F G _ S fun v H' E r => by
    obtain ⟨F', S', s⟩ := S.put r i
    exact w.nx _ H' _ F' S' s h)
theorem Sm.expr (he : Ev X ρ e t) (h : K.nx ρ) (hs : swapsWith e none pos.line X.env = pure false := by exact sw_no rfl) : Sm X ρ (.Expr e pos) K := fun σ H F G D S w =>
  bestS.of (ps_expr pe_best hs) (he σ H F G _ S fun v H' E r => w.nx σ H' ρ F (S.sm r.sm) (.of r.sm) h)
theorem Sm.ret (he : Ev X ρ e t) (h : K.rt t) : Sm X ρ (.Return (some e) pos) K := fun σ H F G D S w =>
  bestS.of (ps_ret pe_best) (he σ H F G _ S fun v H' E r => w.rt v H' t E (r.rt.less (del_sub fun a ha => by
    simp only [List.mem_append] at ha ⊢
    rcases ha with z | z
    · exact .inl z
    · exact .inr (.inr z))) r.nd (fun a ha z => apart S.fs r.fr a ha (List.mem_append_right _ z)) ⟨del_new r.sm fun a ha => by
      rcases List.mem_append.mp ha with z | z
      · exact .inr (r.fr a z)
      · exact .inl (List.mem_append_right _ z), .of r.sm⟩ h)
/-- return x, x with its own nodes -/
theorem Sm.retV (hX : XF M N sc fc k X) (i : Nat) (h : K.rt t) (hr : ρ[i]? = some (some t) := by rfl) (hN : N[i]? = some x := by rfl) (hv : visB sc x = true := by decide +kernel) : Sm X ρ (.Return (some (.Name x p)) pos) K := fun σ H F G D S w => by
  obtain ⟨h1, h2, h3⟩ := visB_ok hv
  obtain ⟨v, F1, F2, F3, e1, r, e2, _⟩ := S.ro.get hr
  have sub : ∀ a ∈ F2 ++ G, a ∈ F ++ G := fun a ha => by
    rw [e2]
    simp only [List.mem_append] at ha ⊢
    rcases ha with z | z
    · exact .inl (.inr (.inl z))
    · exact .inr z
  have nd := S.nd
  rw [e2] at nd
  simp only [List.nodup_append, List.mem_append] at nd
  refine bestS.of (ps_ret (pe_var (by rw [hX.n]; exact hN) (by rw [hX.s]; exact h1) h2 h3)) ⟨v, e1, w.rt v H t F2 (r.less (del_sub sub)) nd.1.2.1.1 (fun a ha z => nd.2.2 a (.inr (.inl ha)) a z rfl) ⟨del_sub sub, fun a _ o q => q⟩ h⟩
theorem Sm.ife {q : Bool} {A B : List Stmt} (hc : Te X ρ c q) (ha : q = true → Ss X ρ A K) (hb : q = false → Ss X ρ B K) : Sm X ρ (.If c A B pos) K := fun σ H F G D S w =>
  bestS.of (ps_if pt_best pss_best pss_best) (hc σ H F G _ S fun H' s => by
    cases q with
    | true =>
      rw [if_pos rfl]
      exact ha rfl σ H' F G D (S.sm s) (w.step (.of s))
    | false =>
      rw [if_neg Bool.false_ne_true]
      exact hb rfl σ H' F G D (S.sm s) (w.step (.of s)))
/-- a state with fewer own nodes -/
theorem Ss.weak {ρ' : Rho} (h : Ss X ρ' rest K) (q : ∀ (G : List Addr) (σ : L2.St) (H : Hp) (F : List Addr), S3 X.K G σ H ρ F → ∃ F', S3 X.K G σ H ρ' F' ∧ Stp G F F' H H) : Ss X ρ rest K := fun σ H F G D S w => by
  obtain ⟨F', S', s⟩ := q G σ H F S
  exact h σ H F' G D S' (w.step s)
/-- the i-th slot's nodes are shared from here on -/
theorem S3.frz {KF : PySem.W.Frag} {G F : List Addr} {H : Hp} {σ : L2.St} (S : S3 KF G σ H ρ F) (i : Nat) (hr : ρ[i]? = some (some t)) : ∃ F', S3 KF G σ H (ρ.set i (some (.sh t.er))) F' ∧ Stp G F F' H H := by
  obtain ⟨v, F1, F2, F3, e1, r, e2, f⟩ := S.ro.get hr
  have nd := S.nd
  rw [e2] at nd
  simp only [List.nodup_append, List.mem_append] at nd
  obtain ⟨⟨n1, ⟨n2, n3, n4⟩, n5⟩, n6, n7⟩ := nd
  have sub : ∀ a ∈ (F1 ++ ([] ++ F3)) ++ G, a ∈ F ++ G := fun a ha => by
    rw [e2]
    simp only [List.mem_append, List.not_mem_nil, false_or] at ha ⊢
    rcases ha with (z | z) | z
    · exact .inl (.inl z)
    · exact .inl (.inr (.inr z))
    · exact .inr z
  have hs : σ.set i (some v) = σ := by
    obtain ⟨l, e⟩ := List.getElem?_eq_some_iff.mp e1
    rw [← e, List.set_getElem_self]
  refine ⟨F1 ++ ([] ++ F3), ⟨?_, ?_, S.gs⟩, ⟨del_sub sub, fun a _ o q => q⟩⟩
  · have := f v (del ((F1 ++ ([] ++ F3)) ++ G) H) H (.sh t.er) [] (del_sub sub) (fun a _ o q => q) (.sh (r.rp (del_sub sub) fun a ha o q => (del_out fun z => ?_).trans q))
    · rw [hs] at this
      exact this
    · simp only [List.mem_append, List.not_mem_nil, false_or] at z
      rcases z with (z | z) | z
      · exact n5 a z a (.inl ha) rfl
      · exact n4 a ha a z rfl
      · exact n7 a (.inr (.inl ha)) a z rfl
  · simp only [List.nodup_append, List.mem_append, List.not_mem_nil, false_or, List.nil_append]
    exact ⟨⟨n1, n3, fun a ha b hb => n5 a ha b (.inr hb)⟩, n6, fun a ha b hb => n7 a (ha.elim .inl fun z => .inr (.inr z)) b hb⟩
theorem Ss.frz (i : Nat) {d : D} (h : Ss X (ρ.set i (some (.sh d))) rest K) (hr : ρ[i]? = some (some t) := by rfl) (hd : t.er = d := by rfl) : Ss X ρ rest K := h.weak fun G σ H F S => hd ▸ S.frz i hr
/-- the i-th slot is forgotten -/
theorem S3.drop {KF : PySem.W.Frag} {G F : List Addr} {H : Hp} {σ : L2.St} (S : S3 KF G σ H ρ F) (i : Nat) : ∃ F', S3 KF G σ H (ρ.set i none) F' ∧ Stp G F F' H H := by
  by_cases hi : i < ρ.length
  · obtain ⟨F1, F2, F3, e2, f⟩ := S.ro.put i hi
    have nd := S.nd
    rw [e2] at nd
    simp only [List.nodup_append, List.mem_append] at nd
    obtain ⟨⟨n1, ⟨n2, n3, n4⟩, n5⟩, n6, n7⟩ := nd
    have sub : ∀ a ∈ (F1 ++ ([] ++ F3)) ++ G, a ∈ F ++ G := fun a ha => by
      rw [e2]
      simp only [List.mem_append, List.not_mem_nil, false_or] at ha ⊢
      rcases ha with (z | z) | z
      · exact .inl (.inl z)
      · exact .inl (.inr (.inr z))
      · exact .inr z
    have hi' : i < σ.length := by rw [S.ro.len]; exact hi
    have hs : σ.set i σ[i] = σ := List.set_getElem_self ..
    refine ⟨F1 ++ ([] ++ F3), ⟨?_, ?_, S.gs⟩, ⟨del_sub sub, fun a _ o q => q⟩⟩
    · have := f σ[i] (del ((F1 ++ ([] ++ F3)) ++ G) H) H none [] (del_sub sub) (fun a _ o q => q) (by cases σ[i] <;> rfl)
      rw [hs] at this
      exact this
    · simp only [List.nodup_append, List.mem_append, List.not_mem_nil, false_or, List.nil_append]
      exact ⟨⟨n1, n3, fun a ha b hb => n5 a ha b (.inr hb)⟩, n6, fun a ha b hb => n7 a (ha.elim .inl fun z => .inr (.inr z)) b hb⟩
  · refine ⟨F, ?_, .refl⟩
    rw [List.set_eq_of_length_le (by omega)]
    exact S
theorem Ss.drop (i : Nat) (h : Ss X (ρ.set i none) rest K) : Ss X ρ rest K := h.weak fun G σ H F S => S.drop i
/-- for tg in iter: body -/
theorem Sm.for {tgt : Tg} (I : Nat → Rho → Prop) (hX : XF M N sc fc k X) (hi : ItF X ρ tg iter ds) (hg : PG X tg (tgt.g X.K)) (hok : ∀ d ∈ ds, tgt.ok d = true) (h0 : I 0 ρ) (hf : ∀ i ρ', I i ρ' → ∀ j ∈ tgt.is, fre ρ' j = true)
    (step : ∀ i d ρ', ds[i]? = some d → I i ρ' → Ss X (tgt.asg d ρ') body { nx := I (i + 1), rt := K.rt, bk := K.nx, ct := I (i + 1) }) (hd : ∀ ρ', I ds.length ρ' → K.nx ρ')
    (hs : ∀ x, foldedSetIterable iter X.env x = pure x := by intro _; rfl) : Sm X ρ (.For tg iter body [] pos) K := fun σ H F G D S w => by
  obtain ⟨wi, pi, hwi⟩ := hi
  refine bestS.of (ps_for hX.hp hX.calm pi hg pss_best hs) (hwi σ H F G _ S fun J H1 s1 hJ => ?_)
  have S1 := S.sm s1
  have w1 := w.step (.of s1)
  let W : Nat → Nat → L2.St → Hp → Prop := fun i m σ' H' => ∃ F' ρ', m = ds.length - i ∧ i ≤ ds.length ∧ S3 X.K G σ' H' ρ' F' ∧ Stp G F F' H1 H' ∧ I i ρ'
  refine ⟨W, ⟨_, F, ρ, rfl, Nat.zero_le _, S1, .refl, h0⟩, ?_⟩
  rintro i m σ2 H2 ⟨F2, ρ2, rfl, hi, S2, st, hI⟩
  have j := hJ H2 (F2 ++ G) st.sh S2.fs
  by_cases hlt : i < ds.length
  · obtain ⟨d, hd'⟩ : ∃ d, ds[i]? = some d := ⟨_, List.getElem?_eq_getElem hlt⟩
    obtain ⟨jg, jy⟩ := j.go i d hd'
    refine .inr ⟨jg, W (i + 1) (ds.length - (i + 1)), fun σ' H' q => ⟨_, by omega, q⟩, fun x H3 y => ?_⟩
    obtain ⟨s3, rx⟩ := jy x H3 y
    refine tgt.run [] (S2.sm s3) rx (hok d (List.mem_of_getElem? hd')) (hf i ρ2 hI) fun σ4 S4 _ => ?_
    have st3 : Stp G F F2 H1 H3 := st.trans (.of s3)
    have w3 := w1.step st3
    exact step i d ρ2 hd' hI σ4 H3 F2 G _ S4 ⟨fun σ' H' ρ' F' S' s q => ⟨F', ρ', rfl, by omega, S', st3.trans s, q⟩, w3.rt, w3.nx, fun σ' H' ρ' F' S' s q => ⟨F', ρ', rfl, by omega, S', st3.trans s, q⟩⟩
  · have e : i = ds.length := by omega
    subst e
    exact .inl ⟨j.stop, w1.nx σ2 H2 ρ2 F2 S2 st (hd ρ2 hI)⟩
/-- while c: body -/
theorem Sm.while (hX : XF M N sc fc k X) (I : Nat → Rho → Prop) (h0 : ∃ m, I m ρ) (hc : ∀ m ρ', I m ρ' → ∃ b : Bool, Te X ρ' c b ∧ (b = true → Ss X ρ' body { nx := fun ρ'' => ∃ m', m' < m ∧ I m' ρ'', rt := K.rt, bk := K.nx, ct := fun ρ'' => ∃ m', m' < m ∧ I m' ρ'' }) ∧ (b = false → K.nx ρ')) : Sm X ρ (.While c body [] pos) K := fun σ H F G D S w => by
  obtain ⟨m0, h0⟩ := h0
  refine bestS.of (ps_while hX.hp pt_best pss_best) ?_
  let W : Nat → L2.St → Hp → Prop := fun m σ' H' => ∃ F' ρ', S3 X.K G σ' H' ρ' F' ∧ Stp G F F' H H' ∧ I m ρ'
  refine ⟨W, ⟨m0, F, ρ, S, .refl, h0⟩, ?_⟩
  rintro m σ2 H2 ⟨F2, ρ2, S2, st, hI⟩
  obtain ⟨b, tc, hb, hn⟩ := hc m ρ2 hI
  refine tc σ2 H2 F2 G _ S2 fun H3 s3 => ?_
  have st3 : Stp G F F2 H H3 := st.trans (.of s3)
  have w3 := w.step st3
  cases b with
  | true =>
    rw [if_pos rfl]
    refine ⟨fun σ' H' => ∃ m', m' < m ∧ W m' σ' H', fun σ' H' z => z, hb rfl σ2 H3 F2 G _ (S2.sm s3) ⟨fun σ' H' ρ' F' S' s ⟨m', l, z⟩ => ⟨m', l, F', ρ', S', st3.trans s, z⟩, w3.rt, w3.nx, fun σ' H' ρ' F' S' s ⟨m', l, z⟩ => ⟨m', l, F', ρ', S', st3.trans s, z⟩⟩⟩
  | false =>
    rw [if_neg Bool.false_ne_true]
    exact w3.nx σ2 H3 ρ2 F2 (S2.sm s3) .refl (hn rfl)
end
/-! ### a def keeps its contract -/
section
variable {M : Md}
theorem RO.start {K : PySem.W.Frag} {R H : Hp} : ∀ {vs : List V} {ds : List D} (n : Nat), Rps K R vs ds → RO K R H (vs.map some ++ List.replicate n none) ((ds.map fun d => some (T.sh d)) ++ List.replicate n none) []
  | [], [], 0, _ => .nil
  | [], [], n + 1, h => .no (RO.start n h)
  | v :: vs, [], _, h => nomatch h
  | [], d :: ds, _, h => nomatch h
  | v :: vs, d :: ds, n, h => by
    cases h with
    | cons h1 h2 => exact RO.yes (F := []) (.sh h1) (RO.start n h2)
theorem Stp.same {G F : List Addr} {H H' : Hp} (s : Stp G [] F H H') : Same H H' := fun b o e => by
  by_cases hb : b ∈ G
  · exact s.kp b hb o e
  · exact (del_some (s.sh b o ((del_out (by simpa using hb)).trans e))).2
/-- the slots at the entry -/
noncomputable def rho0 (N : List Str) (ds : List D) : Rho := (ds.map fun d => some (T.sh d)) ++ List.replicate (N.length - ds.length) none
theorem def_ok {x qual : Str} {st : Stmt} {f : Addr} {fd : FuncData} {N ps : List Str} {k : Nat} {g : List D → T → Prop} (F : Fun M.K x qual st f fd) (S : FnScope N ps (defScope st)) (hm : M.mg x = some (.ref f)) (hb : Binds M.K fd ps [])
    (len : ∀ ds t, g ds t → ds.length = ps.length) (body : ∀ X ds t, XF M N (defScope st) (fun _ => true) k X → g ds t → Ss X (rho0 N ds) (defBody st) { nx := fun _ => t = .sh .non, rt := fun t' => t' = t }) : DefOk M (k + 1) x g := by
  refine ⟨f, fd, ps, FnG.of0 F S (fun vs H Q E h => ?_) (fun cdv A outer s H vs Q E gd hr h => ?_), hm, F.kp, hb⟩
  · obtain ⟨ds, t, G, h1, _, _, h2, _⟩ := h
    rw [h1.len]
    exact len ds t h2
  · obtain ⟨ds, t, G, h1, hG, nG, h2, q⟩ := h
    refine ⟨_, pss_best, ?_⟩
    have S0 : S3 M.K G (L2.start N vs) H (rho0 N ds) [] := by
      refine ⟨?_, by simpa using nG, hG⟩
      unfold L2.start rho0
      rw [h1.len]
      exact RO.start _ (by simpa using h1)
    refine body _ ds t ⟨rfl, rfl, rfl, rfl, rfl, rfl, rfl, S.nd, rfl, rfl, hr, rfl, gd⟩ h2 _ _ _ _ _ S0 ⟨fun σ' H' ρ' F' S' s e => ?_, fun v H' t' E r n a s e => ?_, fun _ _ _ _ _ _ e => e.elim, fun _ _ _ _ _ _ e => e.elim⟩
    · have e' : t = .sh .non := e
      subst e'
      exact q _ H' [] ⟨s.same, (fun a z => nomatch z), List.nodup_nil, .sh .non⟩
    · have e' : t' = t := e
      subst e'
      refine q v H' E ⟨s.same, fun b hb => ?_, n, r⟩
      cases z : H b with
      | none => rfl
      | some o =>
        have := s.sh b o ((del_out (by simpa using a b hb)).trans z)
        rw [del_in (List.mem_append_left _ hb)] at this
        cases this
end
/-! ### paths into own nodes -/
inductive Sp1 where
  | ix (j : Nat) | fd (n : Str)
noncomputable def putF (n : Str) (u : T) : List (Str × T) → List (Str × T)
  | [] => []
  | (m, t) :: r => if n == m then (m, u) :: r else (m, t) :: putF n u r
noncomputable def T.at : List Sp1 → T → Option T
  | [], t => some t
  | .ix j :: π, .lst ts => (ts[j]?).bind (T.at π)
  | .fd n :: π, .obj _ fs => (fs.lookup n).bind (T.at π)
  | _, _ => none
noncomputable def T.put : List Sp1 → T → T → T
  | [], u, _ => u
  | .ix j :: π, u, .lst ts => match ts[j]? with
    | some s => .lst (ts.set j (T.put π u s))
    | none => .lst ts
  | .fd n :: π, u, .obj C fs => match fs.lookup n with
    | some s => .obj C (putF n (T.put π u s) fs)
    | none => .obj C fs
  | _, _, t => t
/-- the value at the path's end -/
noncomputable def Vat (H : Hp) : List Sp1 → V → V → Prop
  | [], v, w => v = w
  | .ix j :: π, v, w => ∃ a vs u, v = .ref a ∧ H a = some (.lst vs) ∧ vs[j]? = some u ∧ Vat H π u w
  | .fd n :: π, v, w => ∃ a C dx fs u, v = .ref a ∧ H a = some (.ins C dx fs) ∧ fs.lookup n = some u ∧ Vat H π u w
theorem Vat.inj {H : Hp} : ∀ {π : List Sp1} {v w w' : V}, Vat H π v w → Vat H π v w' → w = w'
  | [], _, _, _, h, h' => h.symm.trans h'
  | .ix j :: π, _, _, _, h, h' => by
    obtain ⟨a, vs, u, rfl, e1, e2, r⟩ := h
    obtain ⟨a', vs', u', e0, e1', e2', r'⟩ := h'
    cases e0
    rw [e1] at e1'
    cases e1'
    rw [e2] at e2'
    cases e2'
    exact Vat.inj r r'
  | .fd n :: π, _, _, _, h, h' => by
    obtain ⟨a, C, dx, vs, u, rfl, e1, e2, r⟩ := h
    obtain ⟨a', C', dx', vs', u', e0, e1', e2', r'⟩ := h'
    cases e0
    rw [e1] at e1'
    cases e1'
    rw [e2] at e2'
    cases e2'
    exact Vat.inj r r'
theorem Vat.sm {H H' : Hp} (s : Same H H') : ∀ {π : List Sp1} {v w : V}, Vat H π v w → Vat H' π v w
  | [], _, _, h => h
  | .ix j :: π, _, _, h => by
    obtain ⟨a, vs, u, rfl, e1, e2, r⟩ := h
    exact ⟨a, vs, u, rfl, s _ _ e1, e2, r.sm s⟩
  | .fd n :: π, _, _, h => by
    obtain ⟨a, C, dx, vs, u, rfl, e1, e2, r⟩ := h
    exact ⟨a, C, dx, vs, u, rfl, s _ _ e1, e2, r.sm s⟩
section
variable {K : PySem.W.Frag} {R H : Hp}
theorem RTs.hole : ∀ {ts : List T} {vs : List V} {F : List Addr} {j : Nat} {s : T}, RTs K R H vs ts F → ts[j]? = some s → ∃ u F1 F2 F3, vs[j]? = some u ∧ RT K R H u s F2 ∧ F = F1 ++ (F2 ++ F3) ∧
    ∀ (R' H' : Hp) (u' : V) (s' : T) (F2' : List Addr), Same R R' → Keep (F1 ++ F3) H H' → RT K R' H' u' s' F2' → RTs K R' H' (vs.set j u') (ts.set j s') (F1 ++ (F2' ++ F3))
  | [], _, _, _, _, _, h => by simp at h
  | t :: ts, _, _, 0, s, h, e => by
    cases h with
    | @cons v vs _ _ F G h1 h2 =>
      simp at e
      subst e
      refine ⟨v, [], F, G, rfl, h1, rfl, fun R' H' u' s' F2' sm kp r => ?_⟩
      show RTs K R' H' (u' :: vs) (s' :: ts) (F2' ++ G)
      exact .cons r (h2.sm sm kp)
  | t :: ts, _, _, j + 1, s, h, e => by
    cases h with
    | @cons v vs _ _ F G h1 h2 =>
      obtain ⟨u, F1, F2, F3, e1, r, e2, f⟩ := RTs.hole h2 (j := j) (by simpa using e)
      refine ⟨u, F ++ F1, F2, F3, by simpa using e1, r, by rw [e2, List.append_assoc], fun R' H' u' s' F2' sm kp r => ?_⟩
      show RTs K R' H' (v :: vs.set j u') (t :: ts.set j s') ((F ++ F1) ++ (F2' ++ F3))
      rw [List.append_assoc]
      refine .cons (h1.sm sm fun a ha => kp a ?_) (f R' H' u' s' F2' sm (fun a ha => kp a ?_) r)
      · exact List.mem_append_left _ (List.mem_append_left _ ha)
      · rw [List.append_assoc]
        exact List.mem_append_right _ ha
theorem RTf.hole {n : Str} : ∀ {ts : List (Str × T)} {vs : List (Str × V)} {F : List Addr} {s : T}, RTf K R H vs ts F → ts.lookup n = some s → ∃ u F1 F2 F3, vs.lookup n = some u ∧ RT K R H u s F2 ∧ F = F1 ++ (F2 ++ F3) ∧
    ∀ (R' H' : Hp) (s' : T) (F2' : List Addr), Same R R' → Keep (F1 ++ F3) H H' → RT K R' H' u s' F2' → RTf K R' H' vs (putF n s' ts) (F1 ++ (F2' ++ F3))
  | [], _, _, _, _, h => by simp at h
  | (m, t) :: ts, _, _, s, h, e => by
    cases h with
    | @cons _ v vs _ _ F G h1 h2 =>
      cases q : n == m with
      | true =>
        have e' : t = s := by
          simp only [List.lookup_cons, q] at e
          exact Option.some.inj e
        subst e'
        refine ⟨v, [], F, G, by simp only [List.lookup_cons, q], h1, rfl, fun R' H' s' F2' sm kp r => ?_⟩
        unfold putF
        rw [if_pos q]
        show RTf K R' H' ((m, v) :: vs) ((m, s') :: ts) (F2' ++ G)
        exact .cons r (h2.sm sm kp)
      | false =>
        have e' : ts.lookup n = some s := by
          simp only [List.lookup_cons, q] at e
          exact e
        obtain ⟨u, F1, F2, F3, e1, r, e2, f⟩ := RTf.hole h2 e'
        refine ⟨u, F ++ F1, F2, F3, by simp only [List.lookup_cons, q]; exact e1, r, by rw [e2, List.append_assoc], fun R' H' s' F2' sm kp r => ?_⟩
        unfold putF
        rw [if_neg (by rw [q]; exact Bool.false_ne_true)]
        show RTf K R' H' ((m, v) :: vs) ((m, t) :: putF n s' ts) ((F ++ F1) ++ (F2' ++ F3))
        rw [List.append_assoc]
        refine .cons (h1.sm sm fun a ha => kp a ?_) (f R' H' s' F2' sm (fun a ha => kp a ?_) r)
        · exact List.mem_append_left _ (List.mem_append_left _ ha)
        · rw [List.append_assoc]
          exact List.mem_append_right _ ha
theorem set_self {α : Type} {l : List α} {j : Nat} {u : α} (h : l[j]? = some u) : l.set j u = l := by
  obtain ⟨l', e⟩ := List.getElem?_eq_some_iff.mp h
  rw [← e, List.set_getElem_self]
theorem RT.hole : ∀ (π : List Sp1) {v : V} {t : T} {F : List Addr} {u : T}, RT K R H v t F → T.at π t = some u → ∃ w F1 F2 F3, Vat H π v w ∧ RT K R H w u F2 ∧ F = F1 ++ (F2 ++ F3) ∧
    ∀ (R' H' : Hp) (u' : T) (F2' : List Addr), Same R R' → Keep (F1 ++ F3) H H' → RT K R' H' w u' F2' → RT K R' H' v (T.put π u' t) (F1 ++ (F2' ++ F3))
  | [], v, t, F, u, h, e => by
    cases e
    refine ⟨v, [], F, [], rfl, h, by rw [List.append_nil]; rfl, fun R' H' u' F2' _ _ r => ?_⟩
    rw [List.append_nil]
    exact r
  | .ix j :: π, v, t, F, u, h, e => by
    cases h with
    | @lst a vs ts F ha hr =>
      have e' : (ts[j]?).bind (T.at π) = some u := e
      cases q : ts[j]? with
      | none =>
        rw [q] at e'
        cases e'
      | some s =>
        rw [q] at e'
        obtain ⟨w, A1, A2, A3, ew, rw', eF, f⟩ := hr.hole q
        obtain ⟨z, B1, B2, B3, ez, rz, eG, g⟩ := RT.hole π rw' e'
        refine ⟨z, a :: (A1 ++ B1), B2, B3 ++ A3, ⟨a, vs, w, rfl, ha, ew, ez⟩, rz, ?_, fun R' H' u' F2' sm kp r => ?_⟩
        · rw [eF, eG]
          simp only [List.append_assoc, List.cons_append]
        · have g' := g R' H' u' F2' sm (fun b hb => kp b (by
            simp only [List.mem_append, List.mem_cons, List.cons_append] at hb ⊢
            rcases hb with hb | hb
            · exact .inr (.inl (.inr hb))
            · exact .inr (.inr (.inl hb)))) r
          have f' := f R' H' w (T.put π u' s) _ sm (fun b hb => kp b (by
            simp only [List.mem_append, List.mem_cons, List.cons_append] at hb ⊢
            rcases hb with hb | hb
            · exact .inr (.inl (.inl hb))
            · exact .inr (.inr (.inr hb)))) g'
          rw [set_self ew] at f'
          show RT K R' H' (.ref a) (match ts[j]? with
            | some s => .lst (ts.set j (T.put π u' s))
            | none => .lst ts) _
          rw [q]
          have : a :: (A1 ++ B1) ++ (F2' ++ (B3 ++ A3)) = a :: (A1 ++ ((B1 ++ (F2' ++ B3)) ++ A3)) := by simp only [List.append_assoc, List.cons_append]
          rw [this]
          exact .lst (kp a (List.mem_cons_self ..) _ ha) f'
    | _ => cases e
  | .fd n :: π, v, t, F, u, h, e => by
    cases h with
    | @obj a C dx vs ts F ha hr =>
      have e' : (ts.lookup n).bind (T.at π) = some u := e
      cases q : ts.lookup n with
      | none =>
        rw [q] at e'
        cases e'
      | some s =>
        rw [q] at e'
        obtain ⟨w, A1, A2, A3, ew, rw', eF, f⟩ := hr.hole q
        obtain ⟨z, B1, B2, B3, ez, rz, eG, g⟩ := RT.hole π rw' e'
        refine ⟨z, a :: (A1 ++ B1), B2, B3 ++ A3, ⟨a, C, dx, vs, w, rfl, ha, ew, ez⟩, rz, ?_, fun R' H' u' F2' sm kp r => ?_⟩
        · rw [eF, eG]
          simp only [List.append_assoc, List.cons_append]
        · have g' := g R' H' u' F2' sm (fun b hb => kp b (by
            simp only [List.mem_append, List.mem_cons, List.cons_append] at hb ⊢
            rcases hb with hb | hb
            · exact .inr (.inl (.inr hb))
            · exact .inr (.inr (.inl hb)))) r
          have f' := f R' H' (T.put π u' s) _ sm (fun b hb => kp b (by
            simp only [List.mem_append, List.mem_cons, List.cons_append] at hb ⊢
            rcases hb with hb | hb
            · exact .inr (.inl (.inl hb))
            · exact .inr (.inr (.inr hb)))) g'
          show RT K R' H' (.ref a) (match ts.lookup n with
            | some s => .obj C (putF n (T.put π u' s) ts)
            | none => .obj C ts) _
          rw [q]
          have : a :: (A1 ++ B1) ++ (F2' ++ (B3 ++ A3)) = a :: (A1 ++ ((B1 ++ (F2' ++ B3)) ++ A3)) := by simp only [List.append_assoc, List.cons_append]
          rw [this]
          exact .obj (kp a (List.mem_cons_self ..) _ ha) f'
    | _ => cases e
end
/-- a list within a slot's tree, and what its change makes of the state -/
theorem S3.mut {K : PySem.W.Frag} {G F : List Addr} {H : Hp} {σ : L2.St} {ρ : Rho} {i : Nat} {t : T} {π : List Sp1} {ts : List T} (S : S3 K G σ H ρ F) (hr : ρ[i]? = some (some t)) (ht : T.at π t = some (.lst ts)) :
    ∃ v a vs F2, σ[i]? = some (some v) ∧ Vat H π v (.ref a) ∧ H a = some (.lst vs) ∧ RTs K (del (F ++ G) H) H vs ts F2 ∧ F2.Nodup ∧ (∀ b ∈ F2, b ∈ F) ∧
      ∀ (H2 : Hp) (vs' : List V) (ts' : List T) (F2' : List Addr), Same H H2 → (∀ b ∈ F2', b ∈ F2 ∨ H b = none) → F2'.Nodup → RTs K (del (F2' ++ (F ++ G)) H2) H2 vs' ts' F2' →
        ∃ F', S3 K G σ (upd H2 a (.lst vs')) (ρ.set i (some (T.put π (.lst ts') t))) F' ∧ Stp G F F' H (upd H2 a (.lst vs')) := by
  obtain ⟨v, A1, A2, A3, e1, r, e2, f⟩ := S.ro.get hr
  obtain ⟨w, B1, B2, B3, va, rb, e3, g⟩ := r.hole π ht
  cases rb with
  | @lst a vs _ F2 ha hts =>
    have nd := S.nd
    subst e3 e2
    simp only [List.nodup_append, List.mem_append, List.nodup_cons, List.cons_append, List.mem_cons] at nd
    refine ⟨v, a, vs, F2, e1, va, ha, hts, ?_, fun b hb => by simp only [List.mem_append, List.mem_cons, List.cons_append]; exact .inr (.inl (.inr (.inr (.inl hb)))), fun H2 vs' ts' F2' sm hF nF hR => ?_⟩
    · exact nd.1.2.1.1.2.1.2.1
    · have haF : ∀ b ∈ F2', b ≠ a := fun b hb z => by
        subst z
        rcases hF b hb with z | z
        · exact nd.1.2.1.1.2.1.1 (.inl z)
        · rw [ha] at z
          cases z
      have sub : ∀ b ∈ (A1 ++ ((B1 ++ ((a :: F2') ++ B3)) ++ A3)) ++ G, b ∈ (A1 ++ ((B1 ++ ((a :: F2) ++ B3)) ++ A3)) ++ G ∨ H b = none := fun b hb => by
        simp only [List.mem_append, List.mem_cons, List.cons_append] at hb ⊢
        rcases hb with (z | (z | z | z | z) | z) | z
        · exact .inl (.inl (.inl z))
        · exact .inl (.inl (.inr (.inl (.inl z))))
        · exact .inl (.inl (.inr (.inl (.inr (.inl z)))))
        · rcases hF b z with z | z
          · exact .inl (.inl (.inr (.inl (.inr (.inr (.inl z))))))
          · exact .inr z
        · exact .inl (.inl (.inr (.inl (.inr (.inr (.inr z))))))
        · exact .inl (.inl (.inr (.inr z)))
        · exact .inl (.inr z)
      have smU : ∀ b o, b ≠ a → H b = some o → upd H2 a (.lst vs') b = some o := fun b o hb q => by
        rw [upd_ne hb]
        exact sm b o q
      have sR : Same (del ((A1 ++ ((B1 ++ ((a :: F2) ++ B3)) ++ A3)) ++ G) H) (del ((A1 ++ ((B1 ++ ((a :: F2') ++ B3)) ++ A3)) ++ G) (upd H2 a (.lst vs'))) := fun b o q => by
        obtain ⟨q1, q2⟩ := del_some q
        rw [del_out fun z => (sub b z).elim q1 fun z => by
          rw [q2] at z
          cases z]
        exact smU b o (fun z => q1 (by rw [z]; simp)) q2
      have hne : ∀ b, b ∈ A1 ∨ b ∈ B1 ∨ b ∈ B3 ∨ b ∈ A3 ∨ b ∈ G → b ≠ a := fun b hb z => by
        subst z
        rcases hb with z | z | z | z | z
        · exact nd.1.2.2 b z b (.inl (.inr (.inl rfl))) rfl
        · exact nd.1.2.1.1.2.2 b z b (.inl rfl) rfl
        · exact nd.1.2.1.1.2.1.1 (.inr z)
        · exact nd.1.2.1.2.2 b (.inr (.inl rfl)) b z rfl
        · exact nd.2.2 b (.inr (.inl (.inr (.inl rfl)))) b z rfl
      have hR' : RTs K (del ((A1 ++ ((B1 ++ ((a :: F2') ++ B3)) ++ A3)) ++ G) (upd H2 a (.lst vs'))) (upd H2 a (.lst vs')) vs' ts' F2' := hR.sm (fun b o q => by
          obtain ⟨q1, q2⟩ := del_some q
          have hb : b ≠ a := fun z => q1 (by rw [z]; simp)
          rw [del_out fun z => ?_, upd_ne hb]
          · exact q2
          · simp only [List.mem_append, List.mem_cons, List.cons_append] at z q1
            rcases z with (z | (z | z | z | z) | z) | z
            · exact q1 (.inr (.inl (.inl z)))
            · exact q1 (.inr (.inl (.inr (.inl (.inl z)))))
            · exact hb z
            · exact q1 (.inl z)
            · exact q1 (.inr (.inl (.inr (.inl (.inr (.inr (.inr z)))))))
            · exact q1 (.inr (.inl (.inr (.inr z))))
            · exact q1 (.inr (.inr z))) fun b hb o q => by
        rw [upd_ne (haF b hb)]
        exact q
      refine ⟨A1 ++ ((B1 ++ ((a :: F2') ++ B3)) ++ A3), ⟨?_, ?_, fun b hb => ?_⟩, sR, fun b hb o q => smU b o (hne b (.inr (.inr (.inr (.inr hb))))) q⟩
      · have h1 := g _ (upd H2 a (.lst vs')) (.lst ts') (a :: F2') sR (fun b hb o q => smU b o (hne b ?_) q) (.lst upd_same hR')
        · have h2 := f v _ _ _ _ sR (fun b hb o q => smU b o (hne b ?_) q) h1
          · rw [set_self e1] at h2
            exact h2
          · rcases List.mem_append.mp hb with z | z
            · exact .inl z
            · exact .inr (.inr (.inr (.inl z)))
        · rcases List.mem_append.mp hb with z | z
          · exact .inr (.inl z)
          · exact .inr (.inr (.inl z))
      · have fresh : ∀ b ∈ F2', b ∈ F2 ∨ (b ∉ A1 ∧ b ∉ B1 ∧ b ∉ B3 ∧ b ∉ A3 ∧ b ∉ G) := fun b hb => (hF b hb).elim .inl fun z => .inr (by
          have : b ∉ (A1 ++ ((B1 ++ ((a :: F2) ++ B3)) ++ A3)) ++ G := fun m => by
            obtain ⟨o, q⟩ := S.fs b m
            rw [z] at q
            cases q
          simp only [List.mem_append, List.mem_cons, List.cons_append, not_or] at this
          obtain ⟨⟨h1, ⟨h2, _, _, h3⟩, h4⟩, h5⟩ := this
          exact ⟨h1, h2, h3, h4, h5⟩)
        simp only [List.nodup_append, List.mem_append, List.nodup_cons, List.cons_append, List.mem_cons]
        obtain ⟨⟨n1, ⟨⟨n2, ⟨n3, n4, n5, n6⟩, n7⟩, n8, n9⟩, n10⟩, n11, n12⟩ := nd
        refine ⟨⟨n1, ⟨⟨n2, ⟨fun z => z.elim (fun z => haF a z rfl) fun z => n3 (.inr z), nF, n5, fun x hx y hy e => ?_⟩, fun x hx y hy e => ?_⟩, n8, fun x hx y hy e => ?_⟩, fun x hx y hy e => ?_⟩, n11, fun x hx y hy e => ?_⟩
        · subst e
          exact (fresh x hx).elim (fun z => n6 x z x hy rfl) fun z => z.2.2.1 hy
        · subst e
          rcases hy with z | z | z
          · exact n7 x hx x (.inl z) rfl
          · exact (fresh x z).elim (fun z => n7 x hx x (.inr (.inl z)) rfl) fun z => z.2.1 hx
          · exact n7 x hx x (.inr (.inr z)) rfl
        · subst e
          rcases hx with z | z | z | z
          · exact n9 x (.inl z) x hy rfl
          · exact n9 x (.inr (.inl z)) x hy rfl
          · exact (fresh x z).elim (fun z => n9 x (.inr (.inr (.inl z))) x hy rfl) fun z => z.2.2.2.1 hy
          · exact n9 x (.inr (.inr (.inr z))) x hy rfl
        · subst e
          rcases hy with (z | z | z | z) | z
          · exact n10 x hx x (.inl (.inl z)) rfl
          · exact n10 x hx x (.inl (.inr (.inl z))) rfl
          · exact (fresh x z).elim (fun z => n10 x hx x (.inl (.inr (.inr (.inl z)))) rfl) fun z => z.1 hx
          · exact n10 x hx x (.inl (.inr (.inr (.inr z)))) rfl
          · exact n10 x hx x (.inr z) rfl
        · subst e
          rcases hx with z | (z | z | z | z) | z
          · exact n12 x (.inl z) x hy rfl
          · exact n12 x (.inr (.inl (.inl z))) x hy rfl
          · exact n12 x (.inr (.inl (.inr (.inl z)))) x hy rfl
          · exact (fresh x z).elim (fun z => n12 x (.inr (.inl (.inr (.inr (.inl z))))) x hy rfl) fun z => z.2.2.2.2 hy
          · exact n12 x (.inr (.inl (.inr (.inr (.inr z))))) x hy rfl
          · exact n12 x (.inr (.inr z)) x hy rfl
      · obtain ⟨o, q⟩ := S.gs b hb
        exact ⟨o, smU b o (hne b (.inr (.inr (.inr (.inr hb))))) q⟩
/-- the expression is the node at the path in the slot -/
noncomputable def Pn (X : Cx) (ρ : Rho) (e : Expr) (i : Nat) (π : List Sp1) : Prop := ∀ (σ : L2.St) (H : Hp) (F G : List Addr) (Q : VK), S3 X.K G σ H ρ F → (∀ v w H1, Same H H1 → σ[i]? = some (some v) → Vat H1 π v w → Q w H1) → best X e σ H Q
section
variable {M : Md} {N : List Str} {sc : Scope} {fc : Str → Bool} {k : Nat} {X : Cx} {ρ : Rho} {e a b c o : Expr} {es : List Expr} {t u : T} {ts : List T} {d : D} {ds ds' : List D} {pos apos p p1 p2 p3 : Pos} {x y : Str} {tg iter elt : Expr} {scope : Scope} {K : K3} {st : Stmt} {rest body : List Stmt} {i : Nat} {π : List Sp1}
theorem nmN (hX : XF M N sc fc k X) (i : Nat) {t : T} (hr : ρ[i]? = some (some t) := by rfl) (hN : N[i]? = some x := by rfl) (hv : visB sc x = true := by decide +kernel) : Pn X ρ (.Name x pos) i [] := by
  obtain ⟨h1, h2, h3⟩ := visB_ok hv
  intro σ H F G Q S kk
  obtain ⟨v, F1, F2, F3, e1, r, e2, _⟩ := S.ro.get hr
  exact best.of (pe_var (by rw [hX.n]; exact hN) (by rw [hX.s]; exact h1) h2 h3) ⟨v, e1, kk v v H (.refl _) e1 rfl⟩
theorem RTs.nd {KF : PySem.W.Frag} {R H : Hp} {vs : List V} {F : List Addr} (h : RTs KF R H vs ts F) (j : Nat) {s : T} (hj : ts[j]? = some s) (nd : F.Nodup) {R' H' : Hp} {w : V} {E : List Addr} (sm : Same R R') (kp : Keep F H H') (r : RT KF R' H' w u E) (nE : E.Nodup) (ap : ∀ b ∈ E, b ∉ F) :
    ∃ F', RTs KF R' H' (vs.set j w) (ts.set j u) F' ∧ F'.Nodup ∧ ∀ b ∈ F', b ∈ F ∨ b ∈ E := by
  obtain ⟨_, F1, F2, F3, _, _, e, f⟩ := h.hole hj
  refine ⟨F1 ++ (E ++ F3), f R' H' w u E sm (fun b hb => kp b ?_) r, ?_, fun b hb => ?_⟩
  · rw [e]
    simp only [List.mem_append] at hb ⊢
    exact hb.elim .inl fun z => .inr (.inr z)
  · rw [e] at nd ap
    simp only [List.nodup_append, List.mem_append] at nd ap ⊢
    obtain ⟨n1, ⟨n2, n3, n4⟩, n5⟩ := nd
    refine ⟨n1, ⟨nE, n3, fun x hx y hy z => ap x hx (.inr (.inr (z ▸ hy)))⟩, fun x hx y hy z => ?_⟩
    rcases hy with hy | hy
    · exact ap y hy (.inl (z ▸ hx))
    · exact n5 x hx y (.inr hy) z
  · rw [e]
    simp only [List.mem_append] at hb ⊢
    rcases hb with z | z | z
    · exact .inl (.inl z)
    · exact .inr z
    · exact .inl (.inr (.inr z))
/-- what a call of a built-in type's method asks of its form -/
noncomputable abbrev MB (X : Cx) (o : Expr) (name : Str) (e : Expr) (es : List Expr) (apos cpos : Pos) : Prop := attributeBase o name X.env (eval o X.env) = eval o X.env ∧
  ((backTo cpos (starEach (e :: es) X.env)).all (fun x => !x.1) && (backToKw cpos (keywordEach [] X.env)).all (fun x => x.1.isSome) && decide ((e :: es).length + ([] : List Keyword).length + (if ([] : List Keyword).isEmpty then 0 else 1) < 30)) = true ∧
  (apos.endLine == cpos.line) = true ∧ starEach (e :: es) X.env = (false, eval e X.env) :: starEach es X.env ∧ (backTo cpos (starEach es X.env)).any (·.1) = false
theorem nd_app {A B : List Addr} (nA : A.Nodup) (nB : B.Nodup) (h : ∀ b ∈ B, b ∉ A) : (A ++ B).Nodup := List.nodup_append.mpr ⟨nA, nB, fun x hx y hy z => h y hy (z ▸ hx)⟩
/-- recv.append(e) -/
theorem Sm.app (hp : Pn X ρ o i π) (he : Ev X ρ e u) (h : K.nx (ρ.set i (some (T.put π (.lst (ts ++ [u])) t)))) (hz : ts.length < sizeLine) (hr : ρ[i]? = some (some t) := by rfl) (ht : T.at π t = some (.lst ts) := by rfl)
    (mb : MB X o "append" e [] apos p := by exact ⟨rfl, rfl, rfl, rfl, rfl⟩) (hs : swapsWith (.Call (.Attribute o "append" apos) [e] [] p) none pos.line X.env = pure false := by exact sw_no rfl) : Sm X ρ (.Expr (.Call (.Attribute o "append" apos) [e] [] p) pos) K := fun σ H F G D S w => by
  obtain ⟨m1, m2, m3, m4, m5⟩ := mb
  refine bestS.of (ps_expr (pe_bm PySem.F.plainAttrs_list PySem.F.slot_list_append PySem.F.type_list_append mt_append pe_best (pa_cons pe_best pa_nil m4) m1 m2 m3 m4 m5) hs) (hp σ H F G _ S fun v z H1 s1 ev va => ?_)
  obtain ⟨v', q', vs, F2, e1, va', ha, hts, nF, hF, up⟩ := (S.sm s1).mut hr ht
  rw [ev] at e1
  cases e1
  have := va.inj va'
  subst this
  refine ⟨.inl ⟨rfl, vs, SqL.of ha⟩, he σ H1 F G _ (S.sm s1) fun y H2 E r => ?_⟩
  have ap : ∀ b ∈ E, b ∉ F ++ G := apart (S.sm s1).fs r.fr
  have k1 : ∀ b ∈ (F2 ++ E) ++ (F ++ G), b ∈ F ++ G ∨ H1 b = none := fun b hb => by
    rcases List.mem_append.mp hb with z | z
    · rcases List.mem_append.mp z with z | z
      · exact .inl (List.mem_append_left _ (hF b z))
      · exact .inr (r.fr b z)
    · exact .inl z
  have k2 : ∀ b ∈ (F2 ++ E) ++ (F ++ G), b ∈ E ++ (F ++ G) := fun b hb => by
    rcases List.mem_append.mp hb with z | z
    · rcases List.mem_append.mp z with z | z
      · exact List.mem_append_right _ (List.mem_append_left _ (hF b z))
      · exact List.mem_append_left _ z
    · exact List.mem_append_right _ z
  obtain ⟨F', S', st⟩ := up H2 (vs ++ [y]) (ts ++ [u]) (F2 ++ E) r.sm (fun b hb => (List.mem_append.mp hb).elim .inl fun z => .inr (r.fr b z)) (nd_app nF r.nd fun b hb z => ap b hb (List.mem_append_left _ (hF b z))) ((hts.sm (del_new r.sm k1) (.of r.sm)).snoc (r.rt.less (del_sub k2)))
  exact ⟨q', vs, y, rfl, rfl, r.sm _ _ ha, by rw [hts.len]; exact hz, w.nx σ _ _ F' S' ((Stp.of s1).trans st) h⟩
/-- what a store to o[i] asks of its form -/
noncomputable abbrev SB (X : Cx) (o b : Expr) (p : Pos) : Prop := ∀ v, assign (.Subscript o b p) X.env v = (do
      let ov ← holding [v] (eval o X.env)
      let iv ← holding [v, ov] (eval b X.env)
      standAt p
      holding [v, ov, iv] (setItem ov iv v)
      release [v, ov, iv] [])
theorem sw_sub {o b e : Expr} {p : Pos} {l : Nat} {env : Env} : swapsWithSole [.Subscript o b p] e l env = pure false := by
  show swapsWith e (some (.Subscript o b p)) l env = _
  unfold swapsWith
  cases e <;> rfl
/-- o[b] = e -/
theorem Sm.seti {m : Int} {j : Nat} {s : T} (he : Ev X ρ e u) (hp : Pn X ρ o i π) (hb : Rd X ρ b (.int m)) (h : K.nx (ρ.set i (some (T.put π (.lst (ts.set j u)) t)))) (q : ixN ts.length m = some j) (hj : ts[j]? = some s) (hr : ρ[i]? = some (some t) := by rfl) (ht : T.at π t = some (.lst ts) := by rfl)
    (hs : swapsWithSole [.Subscript o b p] e pos.line X.env = pure false := by exact sw_sub) (hw : swappedStores [.Subscript o b p] e X.env = pure none := by rfl) (h1 : (assignEach [.Subscript o b p] X.env).map (·.2) = [assign (.Subscript o b p) X.env] := by rfl) (sb : SB X o b p := by intro _; rfl) : Sm X ρ (.Assign [.Subscript o b p] e pos) K := fun σ H F G D S w => by
  refine bestS.of (ps_asg pe_best (pg_sub pe_best pe_best set_list sb) hs hw h1) (he σ H F G _ S fun y H1 E r => ?_)
  have S1 : S3 X.K (E ++ G) σ H1 ρ F := S.ext r.sm r.fr r.nd r.rt.fs
  refine hp σ H1 F (E ++ G) _ S1 fun v z H2 s2 ev va => hb σ H2 F (E ++ G) _ (S1.sm s2) fun z2 H3 s3 r3 => ?_
  obtain ⟨v', q', vs, F2, e1, va', ha, hts, nF, hF, up⟩ := S.mut hr ht
  rw [ev] at e1
  cases e1
  have := (va.sm s3).inj (va'.sm (r.sm.trans (s2.trans s3)))
  subst this
  have s13 := s2.trans s3
  have s03 := r.sm.trans s13
  have ap : ∀ b ∈ E, b ∉ F ++ G := apart S.fs r.fr
  obtain ⟨F2', hts', nF', sub⟩ := hts.nd (u := u) j hj nF (R' := del ((F2 ++ E) ++ (F ++ G)) H3) (H' := H3) (w := y) (E := E) (del_new s03 fun x hx => by
      rcases List.mem_append.mp hx with z | z
      · rcases List.mem_append.mp z with z | z
        · exact .inl (List.mem_append_left _ (hF x z))
        · exact .inr (r.fr x z)
      · exact .inl z) (.of s03) (r.rt.sm ((del_sm s13).trans (del_sub fun x hx => by
      rcases List.mem_append.mp hx with z | z
      · rcases List.mem_append.mp z with z | z
        · exact List.mem_append_right _ (List.mem_append_left _ (hF x z))
        · exact List.mem_append_left _ z
      · exact List.mem_append_right _ z)) (.of s13)) r.nd fun x hx z => ap x hx (List.mem_append_left _ (hF x z))
  obtain ⟨F', S', st⟩ := up H3 (vs.set j y) (ts.set j u) F2' s03 (fun x hx => (sub x hx).elim .inl fun z => .inr (r.fr x z)) nF' (hts'.less (del_sub fun x hx => by
      rcases List.mem_append.mp hx with z | z
      · rcases sub x z with z | z
        · exact List.mem_append_left _ (List.mem_append_left _ z)
        · exact List.mem_append_left _ (List.mem_append_right _ z)
      · exact List.mem_append_right _ z))
  exact ⟨q', vs, m, j, rfl, r3.intE, s03 _ _ ha, by rw [hts.len]; exact q, w.nx σ _ _ F' S' st h⟩
/-- x op= e, numbers -/
theorem Sm.aug {z n : Int} {op : Operator} {g : Int → Int → Int} (hX : XF M N sc fc k X) (i : Nat) (hip : PIp X op (ipI g)) (he : Rd X ρ e (.int n)) (h : K.nx (ρ.set i (some (.sh (.int (g z n)))))) (hr : ρ[i]? = some (some (.sh (.int z))) := by rfl) (hN : N[i]? = some x := by rfl) (hl : locB sc fc x = true := by decide +kernel)
    (hd : (x == ("__debug__" : Str)) = false := by decide) : Sm X ρ (.AugAssign (.Name x p) op e pos) K := fun σ H F G D S w => by
  obtain ⟨l1, l2⟩ := hX.loc hl
  obtain ⟨v, F1, F2, F3, e1, r, e2, _⟩ := S.ro.get hr
  have ev : v = .int z := by
    cases r with
    | sh r => exact r.intE
  subst ev
  refine bestS.of (ps_aug (i := i) (by rw [hX.n]; exact hX.nd) (by rw [hX.n]; exact hN) l1 pe_best hip l2) ⟨.int z, e1, he σ H F G _ S fun y H1 s1 r1 => ⟨z, n, rfl, r1.intE, ?_⟩⟩
  obtain ⟨F', S', st⟩ := S.put (t := .sh (.int (g z n))) (v := .int (g z n)) (E := []) (H' := H1) ⟨s1, (fun a z => nomatch z), List.nodup_nil, .sh (.int _)⟩ i
  exact w.nx _ H1 _ F' S' st h
end
/-- a datum's built-in class -/
noncomputable def tyD : D → Option String
  | .non => some "NoneType"
  | .bl _ => some "bool"
  | .int _ => some "int"
  | .str _ => some "str"
  | .lst _ => some "list"
  | .tup _ => some "tuple"
  | .dic _ => some "dict"
  | .wit _ _ => some "int"
  | .frT _ _ => some "list"
  | _ => none
theorem tyD_of {K : PySem.W.Frag} {H : Hp} {v : V} {d : D} {n : String} (r : Rp K H v d) (h : tyD d = some n) : TyX K H v (.type n) := by
  cases r with
  | non => cases h; exact .base .non
  | bl b => cases h; exact .base (.bl b)
  | int b => cases h; exact .base (.int b)
  | str b => cases h; exact .base (.str b)
  | ty _ => cases h
  | «at» _ => cases h
  | lst e _ => cases h; exact .base (.lst e)
  | tup e _ =>
    cases h
    rcases e with (e | ⟨o, e⟩) | ⟨o, its, m, e, c, _⟩
    · exact .base (.tup e)
    · exact .fTuple e
    · exact .kTuple e c
  | obj _ _ => cases h
  | dic e _ => cases h; exact .base (.dK e)
  | wit _ => cases h; exact .base (.int _)
  | dicL _ _ => cases h
  | frT _ q =>
    cases h
    obtain ⟨a, vs, e, h1, _⟩ := q
    subst e
    exact .base (.lst (hid_le _ _ h1))
section
variable {M : Md} {N : List Str} {sc : Scope} {fc : Str → Bool} {k : Nat} {X : Cx} {ρ : Rho} {e a b c o : Expr} {es : List Expr} {t u : T} {ts : List T} {d : D} {ds ds' : List D} {pos apos p p1 p2 p3 pt pt2 : Pos} {x y : Str} {tg iter elt : Expr} {scope : Scope} {K : K3} {st : Stmt} {rest body : List Stmt} {i : Nat} {π : List Sp1}
/-- a built-in class as a value -/
theorem e_ty (hX : XF M N sc fc k X) {n : String} (hm : M.mg x = none) (hv : bootBuiltins x = some (.type n)) (hn : x ≠ "__name__" := by decide) (hg : glB sc x = true := by decide +kernel) : Ev X ρ (.Name x p) (.sh (.ty n)) := by
  obtain ⟨h1, h2⟩ := hX.gl hg
  exact Ev.of_sc (pe_bltn h1 (by rw [hX.m]; exact hm) hv (v := .ty n) rfl hn h2) trivial fun σ H F G Q S k => k _ H (.refl _) (.ty n)
/-- isinstance(x, int), .. -/
theorem e_isi {n n' : String} {q : Bool} (hX : XF M N sc fc k X) (hm : M.mg "isinstance" = none) (hm2 : M.mg x = none) (hv : bootBuiltins x = some (.type n')) (ha : Rd X ρ a d) (hd : tyD d = some n) (hk : kitB n n' = some q) (hs : starEach (a :: [.Name x p2]) X.env = (false, eval a X.env) :: starEach [.Name x p2] X.env := by rfl)
    (hn : x ≠ "__name__" := by decide) (hg : glB sc "isinstance" = true := by decide +kernel) (hg2 : glB sc x = true := by decide +kernel) : Ev X ρ (.Call (.Name "isinstance" p) [a, .Name x p2] [] pos) (.sh (.bl q)) :=
  callB hX call_isi hg hm (by decide +kernel) (by decide) trivial (.cons ha (.one (Ev.rd (e_ty hX hm2 hv hn hg2)) rfl) hs) (fun vs H Q r kk => by
    obtain ⟨v, w, rfl, r1, r2⟩ := r.two
    have : w = .ty n' := by
      cases r2
      rfl
    subst this
    exact ⟨v, .ty n', .type n, .type n', q, rfl, .ty n', tyD_of r1 hd, kit_ty hk, kk _ (.bl _)⟩) hs rfl
/-! ### two names at once -/
noncomputable def env0 (sc : Scope) : Env := { (default : Env) with scope := sc }
theorem swapped_eq {ts : List Expr} {v : Expr} {env : Env} : swappedStores ts v env = swappedStores ts v (env0 env.scope) := rfl
/-- others' nodes become a slot's -/
theorem S3.putE {KF : PySem.W.Frag} {G F E : List Addr} {H : Hp} {σ : L2.St} {v : V} (S : S3 KF (E ++ G) σ H ρ F) (r : RT KF (del (E ++ (F ++ G)) H) H v t E) (i : Nat) : ∃ F', S3 KF G (σ.set i (some v)) H (ρ.set i (some t)) F' ∧ ∀ a ∈ F', a ∈ F ∨ a ∈ E := by
  have nd := S.nd
  by_cases hi : i < ρ.length
  · obtain ⟨F1, F2, F3, e, f⟩ := S.ro.put i hi
    subst e
    simp only [List.nodup_append, List.mem_append] at nd
    obtain ⟨⟨n1, ⟨n2, n3, n4⟩, n5⟩, ⟨n6, n7, n8⟩, n9⟩ := nd
    refine ⟨F1 ++ (E ++ F3), ⟨f (some v) _ _ (some t) E (del_sub fun a ha => ?_) (fun a _ o q => q) (r.less (del_sub fun a ha => ?_)), ?_, fun a ha => S.gs a (List.mem_append_right _ ha)⟩, fun a ha => ?_⟩
    · simp only [List.mem_append] at ha ⊢
      rcases ha with (z | z | z) | z
      · exact .inl (.inl z)
      · exact .inr (.inl z)
      · exact .inl (.inr (.inr z))
      · exact .inr (.inr z)
    · simp only [List.mem_append] at ha ⊢
      rcases ha with (z | z | z) | z
      · exact .inr (.inl (.inl z))
      · exact .inl z
      · exact .inr (.inl (.inr (.inr z)))
      · exact .inr (.inr z)
    · simp only [List.nodup_append, List.mem_append]
      refine ⟨⟨n1, ⟨n6, n3, fun a ha b hb z => n9 b (.inr (.inr hb)) a (.inl ha) z.symm⟩, fun a ha b hb z => ?_⟩, n7, fun a ha b hb z => ?_⟩
      · rcases hb with hb | hb
        · exact n9 a (.inl ha) b (.inl hb) z
        · exact n5 a ha b (.inr hb) z
      · rcases ha with ha | ha | ha
        · exact n9 a (.inl ha) b (.inr hb) z
        · exact n8 a ha b hb z
        · exact n9 a (.inr (.inr ha)) b (.inr hb) z
    · simp only [List.mem_append] at ha ⊢
      rcases ha with z | z | z
      · exact .inl (.inl z)
      · exact .inr z
      · exact .inl (.inr (.inr z))
  · refine ⟨F, ⟨?_, ?_, fun a ha => S.gs a (List.mem_append_right _ ha)⟩, fun a ha => .inl ha⟩
    · rw [List.set_eq_of_length_le (show σ.length ≤ i by rw [S.ro.len]; omega), List.set_eq_of_length_le (show ρ.length ≤ i by omega)]
      exact S.ro.sm (del_sub fun a ha => (List.mem_append.mp ha).elim (List.mem_append_left _) fun z => List.mem_append_right _ (List.mem_append_right _ z)) fun a _ o q => q
    · simp only [List.nodup_append, List.mem_append] at nd ⊢
      exact ⟨nd.1, nd.2.1.2.1, fun a ha b hb => nd.2.2 a ha b (.inr hb)⟩
/-- two slots get trees -/
theorem S3.put2 {KF : PySem.W.Frag} {G F E : List Addr} {H H' : Hp} {σ : L2.St} {v w : V} (S : S3 KF G σ H ρ F) (r : ResA KF (F ++ G) H H' [v, w] [t, u] E) (i j : Nat) : ∃ F', S3 KF G ((σ.set i (some v)).set j (some w)) H' ((ρ.set i (some t)).set j (some u)) F' ∧ Stp G F F' H H' := by
  obtain ⟨sm, fr, nd, rt⟩ := r
  have so := rt.fs
  cases rt with
  | @cons _ _ _ _ E1 E2' a1 a2 =>
    cases a2 with
    | @cons _ _ _ _ E2 E3 a2 a3 =>
      cases a3
      simp only [List.append_nil] at fr nd so a1 a2
      have S0 := S.ext sm fr nd so
      rw [List.append_assoc] at S0
      obtain ⟨F1, S1, m1⟩ := S0.putE (a1.less (del_sub fun a ha => by
        simp only [List.mem_append] at ha ⊢
        rcases ha with z | z | z | z
        · exact .inl (.inl z)
        · exact .inr (.inl z)
        · exact .inl (.inr z)
        · exact .inr (.inr z))) i
      obtain ⟨F2, S2, m2⟩ := S1.putE (a2.less (del_sub fun a ha => by
        simp only [List.mem_append] at ha ⊢
        rcases ha with z | z | z
        · exact .inl (.inr z)
        · exact (m1 a z).elim (fun z => .inr (.inl z)) fun z => .inl (.inl z)
        · exact .inr (.inr z))) j
      refine ⟨F2, S2, ⟨del_new sm fun a ha => ?_, .of sm⟩⟩
      rcases List.mem_append.mp ha with z | z
      · rcases m2 a z with z | z
        · rcases m1 a z with z | z
          · exact .inl (List.mem_append_left _ z)
          · exact .inr (fr a (List.mem_append_left _ z))
        · exact .inr (fr a (List.mem_append_right _ z))
      · exact .inl (List.mem_append_right _ z)
/-- x, y = a, b: both are the def's own names -/
theorem Sm.par {kt k2 : Nat} (hX : XF M N sc fc k X) (i j : Nat) (ha : EvA X ρ [a, b] [t, u]) (h : K.nx ((ρ.set i (some t)).set j (some u)))
    (hw : swappedStores [.Tuple [.Name x p1, .Name y p2] kt pt] (.Tuple [a, b] k2 pt2) (env0 sc) = pure (some [x, y]) := by rfl) (hN : N[i]? = some x := by rfl) (hN2 : N[j]? = some y := by rfl) (hl : sc.names.lookup x = some .local := by decide +kernel) (hl2 : sc.names.lookup y = some .local := by decide +kernel) (hij : i ≠ j := by decide)
    (hs : swapsWithSole [.Tuple [.Name x p1, .Name y p2] kt pt] (.Tuple [a, b] k2 pt2) pos.line X.env = pure false := by rfl) : Sm X ρ (.Assign [.Tuple [.Name x p1, .Name y p2] kt pt] (.Tuple [a, b] k2 pt2) pos) K := fun σ H F G D S w => by
  refine bestS.of (ps_par (i := i) (j := j) hX.calm (by rw [hX.n]; exact hX.nd) (by rw [hX.n]; exact hN) (by rw [hX.n]; exact hN2) hij (by rw [hX.s]; exact hl) (by rw [hX.s]; exact hl2) pa_best (by rw [swapped_eq, hX.s]; exact hw) hs) (ha σ H F G _ S fun vs H' E r => ?_)
  have rt := r.rt
  cases rt with
  | cons a1 a2 =>
    cases a2 with
    | cons a2 a3 =>
      cases a3
      obtain ⟨F', S', st⟩ := S.put2 r i j
      exact ⟨_, _, rfl, w.nx _ H' _ F' S' st h⟩
/-- x = [elt for ..] on one line, x the def's own name -/
theorem Sm.lc {own : List (Str × Nat)} {tgt : Tg} {ifs : List Expr} {us : List (Option T)} (hX : XF M N sc fc k X) (i : Nat) (hi : ItC X ρ tg iter ds) (ok : blkC N sc scope own = true) (hg : ∀ X', Blk X scope X' → PG X' tg (tgt.g X.K))
    (hf : ∀ i ∈ own.map (·.2), fre ρ i = true) (hv : ∀ i ∈ tgt.is, i ∈ own.map (·.2)) (hl : us.length = ds.length) (hz : ds.length ≤ sizeLine) (hok : ∀ d ∈ ds, tgt.ok d = true)
    (step : ∀ (i : Nat) (d : D) (u : Option T) (X' : Cx), Blk X scope X' → ds[i]? = some d → us[i]? = some u → Tf X' (tgt.asg d (wipeR ρ (own.map (·.2)))) ifs u.isSome ∧ ∀ t, u = some t → Ev X' (tgt.asg d (wipeR ρ (own.map (·.2)))) elt t)
    (h : K.nx (ρ.set i (some (.lst (us.filterMap id))))) (hN : N[i]? = some x) (hy : sc.names.lookup x = some .local) (hll : (p.line == pos.line) = true) (hn : (scope.names.any fun (n, k) => n == x && (k == .local || k == .cell)) = false) (hk : sc.kind = .function)
    (hs : ∀ x, foldedSetIterable iter X.env x = pure x := by intro _; rfl) : Sm X ρ (.Assign [.Name x p] (.ListComp elt [⟨tg, iter, ifs, 0⟩] scope pos) apos) K := by
  obtain ⟨wi, pi, hwi⟩ := hi
  refine fun σ H F G D S w => bestS.of (ps_setLc (i := i) hX.calm (by rw [hX.n]; exact hX.nd) (by rw [hX.n]; exact hN) (by rw [hX.s]; exact hy) (sw_true (by rw [hX.s]; exact hk) (by rw [hX.s]; exact hy) hll hn) pi (blk_of hX ok) (fun s H C cl fp => hg _ ⟨s, H, C, cl, fp, rfl⟩) (fun s H C cl fp => blk_pts s H C cl fp) (fun s H C cl fp => blk_pe s H C cl fp) hs)
    (lc_tLc hwi hf hv hl hz hok step S fun v H' E r => ?_)
  obtain ⟨F', S', st⟩ := S.put r i
  exact w.nx _ H' _ F' S' st h
theorem Sm.lcN {α : Type} {xs : List α} {en : α → D} {g : α → T} (hX : XF M N sc fc k X) (j i : Nat) (hi : ItC X ρ (.Name y p2) iter (xs.map en))
    (step : ∀ X', Blk X scope X' → XF M N (relS scope sc) (fcB scope) k X' → ∀ a ∈ xs, Ev X' (ρ.set i (some (.sh (en a)))) elt (g a)) (hz : xs.length ≤ sizeLine) (h : K.nx (ρ.set j (some (.lst (xs.map g)))))
    (ok : blkC N sc scope [(y, i)] = true := by decide +kernel) (hN : N[i]? = some y := by rfl) (hl : locB (relS scope sc) (fcB scope) y = true := by decide +kernel) (f : fre ρ i = true := by rfl)
    (hNx : N[j]? = some x := by rfl) (hy : sc.names.lookup x = some .local := by decide +kernel) (hll : (p.line == pos.line) = true := by rfl) (hn : (scope.names.any fun (n, k) => n == x && (k == .local || k == .cell)) = false := by decide +kernel) (hk : sc.kind = .function := by rfl)
    (hs : ∀ x, foldedSetIterable iter X.env x = pure x := by intro _; rfl) : Sm X ρ (.Assign [.Name x p] (.ListComp elt [⟨.Name y p2, iter, [], 0⟩] scope pos) apos) K := by
  obtain ⟨h1, h2, h3⟩ := one_hyps (own := [(y, i)]) (ρ := ρ) rfl f
  refine Sm.lc (own := [(y, i)]) (tgt := .one i) (ifs := []) (us := xs.map fun a => some (g a)) hX j hi ok (fun X' b => (hX.blk b).pg1 i hN hl) h1 h2 (by rw [List.length_map, List.length_map]) (by rw [List.length_map]; exact hz) (fun _ _ => rfl) (fun j d u X' b hd hu => by
    obtain ⟨a, e1, m, rfl⟩ := map_at hd
    obtain ⟨a', e2, _, rfl⟩ := map_at hu
    rw [e1] at e2
    cases e2
    rw [h3]
    refine ⟨Tf.nil, fun t q => ?_⟩
    cases q
    exact step X' b (hX.blk b) a m) (by rw [fm_some]; exact h) hNx hy hll hn hk hs
theorem Sm.lcF {α : Type} {xs : List α} {en : α → D} {g : α → T} {q : α → Bool} {cond : Expr} (hX : XF M N sc fc k X) (j i : Nat) (hi : ItC X ρ (.Name y p2) iter (xs.map en))
    (step : ∀ X', Blk X scope X' → XF M N (relS scope sc) (fcB scope) k X' → ∀ a ∈ xs, Te X' (ρ.set i (some (.sh (en a)))) cond (q a) ∧ (q a = true → Ev X' (ρ.set i (some (.sh (en a)))) elt (g a))) (hz : xs.length ≤ sizeLine) (h : K.nx (ρ.set j (some (.lst ((xs.filter q).map g)))))
    (ok : blkC N sc scope [(y, i)] = true := by decide +kernel) (hN : N[i]? = some y := by rfl) (hl : locB (relS scope sc) (fcB scope) y = true := by decide +kernel) (f : fre ρ i = true := by rfl)
    (hNx : N[j]? = some x := by rfl) (hy : sc.names.lookup x = some .local := by decide +kernel) (hll : (p.line == pos.line) = true := by rfl) (hn : (scope.names.any fun (n, k) => n == x && (k == .local || k == .cell)) = false := by decide +kernel) (hk : sc.kind = .function := by rfl)
    (hs : ∀ x, foldedSetIterable iter X.env x = pure x := by intro _; rfl) : Sm X ρ (.Assign [.Name x p] (.ListComp elt [⟨.Name y p2, iter, [cond], 0⟩] scope pos) apos) K := by
  obtain ⟨h1, h2, h3⟩ := one_hyps (own := [(y, i)]) (ρ := ρ) rfl f
  refine Sm.lc (own := [(y, i)]) (tgt := .one i) (ifs := [cond]) (us := xs.map fun a => if q a then some (g a) else none) hX j hi ok (fun X' b => (hX.blk b).pg1 i hN hl) h1 h2 (by rw [List.length_map, List.length_map]) (by rw [List.length_map]; exact hz) (fun _ _ => rfl) (fun j d u X' b hd hu => by
    obtain ⟨a, e1, m, rfl⟩ := map_at hd
    obtain ⟨a', e2, _, rfl⟩ := map_at hu
    rw [e1] at e2
    cases e2
    rw [h3]
    obtain ⟨s1, s2⟩ := step X' b (hX.blk b) a m
    cases hq : q a with
    | true =>
      rw [if_pos rfl]
      rw [hq] at s1
      refine ⟨Tf.one s1, fun t z => ?_⟩
      cases z
      exact s2 hq
    | false =>
      rw [if_neg Bool.false_ne_true]
      rw [hq] at s1
      exact ⟨Tf.one s1, fun t z => nomatch z⟩) (by rw [fm_filter]; exact h) hNx hy hll hn hk hs
end
/-! ### rows and tables of numbers -/
noncomputable abbrev dR (xs : List Int) : D := .lst (xs.map D.int)
noncomputable abbrev dT (t : List (List Int)) : D := .lst (t.map dR)
noncomputable abbrev tI (i : Int) : T := .sh (.int i)
noncomputable abbrev tR (xs : List Int) : T := .lst (xs.map tI)
noncomputable abbrev tT (t : List (List Int)) : T := .lst (t.map tR)
theorem ers_mapG {α : Type} (f : α → T) (g : α → D) (h : ∀ a, (f a).er = g a) : ∀ xs : List α, T.ers (xs.map f) = xs.map g
  | [] => rfl
  | x :: xs => by
    show (f x).er :: T.ers (xs.map f) = _
    rw [h, ers_mapG f g h xs]
    rfl
theorem er_tR (xs : List Int) : (tR xs).er = dR xs := congrArg D.lst (ers_mapG _ _ (fun _ => rfl) xs)
theorem er_tT (t : List (List Int)) : (tT t).er = dT t := congrArg D.lst (ers_mapG _ _ er_tR t)
theorem ok_dR (xs : List Int) : Ok 1 (dR xs) := ok_map (n := 0) fun _ => ok_int
theorem ok_dT (t : List (List Int)) : Ok 2 (dT t) := ok_map (n := 1) ok_dR
theorem pys_map {α : Type} (f : α → D) : ∀ xs : List α, pys (xs.map f) = xs.map fun a => py (f a)
  | [] => rfl
  | x :: xs => by
    show py (f x) :: pys (xs.map f) = _
    rw [pys_map f xs]
    rfl
theorem eqvAll_map {α : Type} [DecidableEq α] (f : α → D) (h : ∀ a b, eqb (f a) (f b) = decide (a = b)) : ∀ xs ys : List α, PyData.eqvAll (pys (xs.map f)) (pys (ys.map f)) = decide (xs = ys)
  | [], [] => by simp [pys, PyData.eqvAll]
  | [], y :: ys => by simp [pys, PyData.eqvAll]
  | x :: xs, [] => by simp [pys, PyData.eqvAll]
  | x :: xs, y :: ys => by
    show PyData.eqvAll (py (f x) :: pys (xs.map f)) (py (f y) :: pys (ys.map f)) = _
    rw [PyData.eqvAll, eqvAll_map f h xs ys]
    have := h x y
    unfold eqb at this
    rw [this]
    by_cases h1 : x = y <;> by_cases h2 : xs = ys <;> simp [h1, h2]
theorem eqb_lst (xs ys : List D) : eqb (.lst xs) (.lst ys) = PyData.eqvAll (pys xs) (pys ys) := by
  show PyData.eqv (.list (pys xs)) (.list (pys ys)) = _
  simp only [PyData.eqv]
theorem eqb_int (i j : Int) : eqb (.int i) (.int j) = decide (i = j) := by
  show PyData.eqv (.int i) (.int j) = _
  simp only [PyData.eqv]
  exact Bool.beq_eq_decide_eq ..
theorem eqb_bl (i j : Bool) : eqb (.bl i) (.bl j) = decide (i = j) := by
  show PyData.eqv (.bool i) (.bool j) = _
  simp only [PyData.eqv]
  exact Bool.beq_eq_decide_eq ..
theorem eqb_map {α : Type} [DecidableEq α] (f : α → D) (h : ∀ a b, eqb (f a) (f b) = decide (a = b)) (xs ys : List α) : eqb (.lst (xs.map f)) (.lst (ys.map f)) = decide (xs = ys) := by
  rw [eqb_lst, eqvAll_map f h]
theorem eqb_dR (xs ys : List Int) : eqb (dR xs) (dR ys) = decide (xs = ys) := eqb_map _ eqb_int xs ys
theorem eqb_dT (s t : List (List Int)) : eqb (dT s) (dT t) = decide (s = t) := eqb_map _ eqb_dR s t
section
variable {M : Md} {N : List Str} {sc : Scope} {fc : Str → Bool} {k : Nat} {X : Cx} {ρ : Rho} {e a b c o : Expr} {es : List Expr} {t u : T} {ts : List T} {d : D} {ds ds' : List D} {pos apos p p1 p2 p3 pt pt2 : Pos} {x y : Str} {tg iter elt : Expr} {scope : Scope} {K : K3} {st : Stmt} {rest body : List Stmt} {i : Nat} {π : List Sp1}
/-- a shared name, to look at -/
theorem nmS (hX : XF M N sc fc k X) (i : Nat) (hr : ρ[i]? = some (some (.sh d)) := by rfl) (hN : N[i]? = some x := by rfl) (hv : visB sc x = true := by decide +kernel) : Rd X ρ (.Name x pos) d := (nm hX i hr hN hv).rd
/-- a name with own nodes, to look at -/
theorem nmO (hX : XF M N sc fc k X) (i : Nat) {t : T} (hr : ρ[i]? = some (some t)) (hd : t.er = d) (hN : N[i]? = some x := by rfl) (hv : visB sc x = true := by decide +kernel) : Rd X ρ (.Name x pos) d := hd ▸ nmR hX i hr hN hv
theorem ItF.rng {j : Int} {n : Nat} (hj : j = n) (h : ItF X ρ tg iter (rngD 0 j.toNat)) : ItF X ρ tg iter ((List.range n).map fun (i : Nat) => D.int (i : Int)) := by
  subst hj
  unfold rngD at h
  simpa using h
/-- range(n), n a natural number -/
theorem itRange {n : Nat} (hX : XF M N sc fc k X) (hm : M.mg "range" = none) (ha : Rd X ρ a (.int n)) (h2 : (n : Int) < 2 ^ 62) (hs : starEach (a :: []) X.env = (false, eval a X.env) :: starEach [] X.env := by rfl) (hg : glB sc "range" = true := by decide +kernel) :
    ItF X ρ tg (.Call (.Name "range" p) [a] [] pos) ((List.range n).map fun (i : Nat) => D.int (i : Int)) := ItF.rng rfl (ItF.range1 hX hm ha (by omega) h2 hs hg)
theorem itZipC {α β : Type} {f : α → D} {g : β → D} {xs : List α} {ys : List β} {elts : List Expr} {kk : Nat} {tpos : Pos} (hX : XF M N sc fc k X) (hm : M.mg "zip" = none) (ha : Ls X ρ a (xs.map f)) (hb : Ls X ρ b (ys.map g)) (hs : starEach (a :: [b]) X.env = (false, eval a X.env) :: starEach [b] X.env := by rfl) (hs2 : starEach (b :: []) X.env = (false, eval b X.env) :: starEach [] X.env := by rfl)
    (hpl : (backTo pos (starEach [b] X.env)).any (·.1) = false := by rfl) (hg : glB sc "zip" = true := by decide +kernel) : ItC X ρ (.Tuple elts kk tpos) (.Call (.Name "zip" p) [a, b] [] pos) ((xs.zip ys).map fun q => .tup [f q.1, g q.2]) := by
  have := ItC.zip (elts := elts) (kk := kk) (tpos := tpos) (p := p) hX hm ha hb hs hs2 hpl hg
  rw [zip_map] at this
  exact this
/-- for x in iter over typed data -/
theorem Sm.forN {α : Type} {xs : List α} {en : α → D} (I : Nat → Rho → Prop) (hX : XF M N sc fc k X) (i : Nat) (hi : ItF X ρ (.Name x p) iter (xs.map en)) (h0 : I 0 ρ) (hf : ∀ j ρ', I j ρ' → fre ρ' i = true)
    (step : ∀ j a ρ', xs[j]? = some a → I j ρ' → Ss X (ρ'.set i (some (.sh (en a)))) body { nx := I (j + 1), rt := K.rt, bk := K.nx, ct := I (j + 1) }) (hd : ∀ ρ', I xs.length ρ' → K.nx ρ')
    (hN : N[i]? = some x := by rfl) (hl : locB sc fc x = true := by decide +kernel) (hs : ∀ x, foldedSetIterable iter X.env x = pure x := by intro _; rfl) : Sm X ρ (.For (.Name x p) iter body [] pos) K :=
  Sm.for (tgt := .one i) I hX hi (hX.pg1 i hN hl) (fun _ _ => rfl) h0 (fun j ρ' h l hl => by rw [List.mem_singleton.mp hl]; exact hf j ρ' h) (fun j d ρ' hd hI => by
    obtain ⟨a, e, _, rfl⟩ := map_at hd
    exact step j a ρ' e hI) (by rw [List.length_map]; exact hd) hs
theorem Sm.forZ {α : Type} {xs : List α} {en en' : α → D} {kk : Nat} {tpos : Pos} (I : Nat → Rho → Prop) (hX : XF M N sc fc k X) (i l : Nat) (hi : ItF X ρ (.Tuple [.Name x p1, .Name y p2] kk tpos) iter (xs.map fun a => .tup [en a, en' a])) (h0 : I 0 ρ) (hf : ∀ j ρ', I j ρ' → fre ρ' i = true ∧ fre ρ' l = true)
    (step : ∀ j a ρ', xs[j]? = some a → I j ρ' → Ss X ((ρ'.set i (some (.sh (en a)))).set l (some (.sh (en' a)))) body { nx := I (j + 1), rt := K.rt, bk := K.nx, ct := I (j + 1) }) (hd : ∀ ρ', I xs.length ρ' → K.nx ρ')
    (hN : N[i]? = some x := by rfl) (hl : locB sc fc x = true := by decide +kernel) (hN2 : N[l]? = some y := by rfl) (hl2 : locB sc fc y = true := by decide +kernel) (hs : ∀ x, foldedSetIterable iter X.env x = pure x := by intro _; rfl) : Sm X ρ (.For (.Tuple [.Name x p1, .Name y p2] kk tpos) iter body [] pos) K :=
  Sm.for (tgt := .tup [i, l]) I hX hi (hX.pg2 i l hN hl hN2 hl2 rfl) (fun d hd => by
    obtain ⟨a, _, rfl⟩ := List.mem_map.mp hd
    rfl) h0 (fun j ρ' h m hm => by
      obtain ⟨h1, h2⟩ := hf j ρ' h
      rcases List.mem_cons.mp hm with e | e
      · rw [e]
        exact h1
      · rw [List.mem_singleton.mp e]
        exact h2) (fun j d ρ' hd hI => by
    obtain ⟨a, e, _, rfl⟩ := map_at hd
    exact step j a ρ' e hI) (by rw [List.length_map]; exact hd) hs
theorem Ss.consP (P : Rho → Prop) (h : Sm X ρ st { K with nx := P }) (h2 : ∀ ρ', P ρ' → Ss X ρ' rest K) : Ss X ρ (st :: rest) K := Ss.cons (h.mono (fun ρ' q => h2 ρ' q) (fun _ q => q) (fun _ q => q) fun _ q => q)
/-- all, any, sum of a comprehension -/
theorem e_allC {α : Type} {xs : List α} {f : α → Bool} (hX : XF M N sc fc k X) (hm : M.mg "all" = none) (h : Ev X ρ e (.lst (xs.map fun a => .sh (.bl (f a))))) (hs : starEach (e :: []) X.env = (false, eval e X.env) :: starEach [] X.env := by rfl) (hg : glB sc "all" = true := by decide +kernel) : Ev X ρ (.Call (.Name "all" p) [e] [] pos) (.sh (.bl (xs.all f))) := by
  have h' := e_all (bs := xs.map f) (p := p) (pos := pos) hX hm (h.rd' (by rw [T.er, ers_mapG _ (fun a => D.bl (f a)) (fun _ => rfl), List.map_map]; rfl)) hs hg
  rw [List.all_map] at h'
  exact h'
theorem e_anyC {α : Type} {xs : List α} {f : α → Bool} (hX : XF M N sc fc k X) (hm : M.mg "any" = none) (h : Ev X ρ e (.lst (xs.map fun a => .sh (.bl (f a))))) (hs : starEach (e :: []) X.env = (false, eval e X.env) :: starEach [] X.env := by rfl) (hg : glB sc "any" = true := by decide +kernel) : Ev X ρ (.Call (.Name "any" p) [e] [] pos) (.sh (.bl (xs.any f))) := by
  have h' := e_any (bs := xs.map f) (p := p) (pos := pos) hX hm (h.rd' (by rw [T.er, ers_mapG _ (fun a => D.bl (f a)) (fun _ => rfl), List.map_map]; rfl)) hs hg
  rw [List.any_map] at h'
  exact h'
theorem e_sumC {α : Type} {xs : List α} {f : α → Int} (hX : XF M N sc fc k X) (hm : M.mg "sum" = none) (h : Ev X ρ e (.lst (xs.map fun a => .sh (.int (f a))))) (hs : starEach (e :: []) X.env = (false, eval e X.env) :: starEach [] X.env := by rfl) (hg : glB sc "sum" = true := by decide +kernel) : Ev X ρ (.Call (.Name "sum" p) [e] [] pos) (.sh (.int (xs.map f).sum)) :=
  e_sum (ns := xs.map f) (p := p) (pos := pos) hX hm (h.rd' (by rw [T.er, ers_mapG _ (fun a => D.int (f a)) (fun _ => rfl), List.map_map]; rfl)) hs hg
theorem Ev.cast {t' : T} (h : Ev X ρ e t) (q : t = t') : Ev X ρ e t' := q ▸ h
theorem Rd.cast {d' : D} (h : Rd X ρ e d) (q : d = d') : Rd X ρ e d' := q ▸ h
theorem Ev.rdI {i : Int} (h : Ev X ρ e (.sh (.int i))) : Rd X ρ e (.int i) := h.rd
end
/-- a def of the module, by its text -/
noncomputable def FnE (M : Md) (x : Str) (st : Stmt) (ps : List Str) : Prop := ∃ (f : Addr) (fd : FuncData), Fun M.K x x st f fd ∧ M.mg x = some (.ref f) ∧ Binds M.K fd ps []
theorem def_okE {M : Md} {x : Str} {st : Stmt} {N ps : List Str} {k : Nat} {g : List D → T → Prop} (F : FnE M x st ps) (S : FnScope N ps (defScope st)) (len : ∀ ds t, g ds t → ds.length = ps.length)
    (body : ∀ X ds t, XF M N (defScope st) (fun _ => true) k X → g ds t → Ss X (rho0 N ds) (defBody st) { nx := fun _ => t = .sh .non, rt := fun t' => t' = t }) : DefOk M (k + 1) x g := by
  obtain ⟨f, fd, F, hm, hb⟩ := F
  exact def_ok F S hm hb len body
section
variable {M : Md} {N : List Str} {sc : Scope} {fc : Str → Bool} {k : Nat} {X : Cx} {ρ : Rho} {e a b c o : Expr} {es : List Expr} {t u : T} {ts : List T} {d : D} {ds ds' : List D} {pos apos p p1 p2 p3 pt pt2 : Pos} {x y : Str} {tg iter elt : Expr} {scope : Scope} {K : K3} {st : Stmt} {rest body : List Stmt} {i : Nat} {π : List Sp1}
noncomputable def isIntC : Expr → Option Int
  | .Constant (.int i) _ _ => some i
  | _ => none
noncomputable def constInts : List Expr → Option (List Int)
  | [] => some []
  | e :: es => (isIntC e).bind fun i => (constInts es).map (i :: ·)
theorem isIntC_eq {e : Expr} {i : Int} (h : isIntC e = some i) : ∃ n p, e = .Constant (.int i) n p := by
  cases e
  case Constant c _ _ =>
    cases c
    case int => cases h; exact ⟨_, _, rfl⟩
    all_goals cases h
  all_goals cases h
theorem EvA.ints : ∀ {es : List Expr} {ns : List Int}, constInts es = some ns → EvA X ρ es (ns.map tI)
  | [], _, h => by
    cases h
    exact .nil
  | e :: es, ns, h => by
    have h' : ((isIntC e).bind fun i => (constInts es).map (i :: ·)) = some ns := h
    obtain ⟨i, h1, h2⟩ := Option.bind_eq_some_iff.mp h'
    obtain ⟨ms, h3, rfl⟩ := Option.map_eq_some_iff.mp h2
    obtain ⟨_, _, rfl⟩ := isIntC_eq h1
    exact EvA.cons Ev.int (EvA.ints h3) rfl
/-- (1, 2, ..), [1, 2, ..] -/
theorem Ev.tupI {ns : List Int} {x1} (h : constInts es = some ns := by rfl) (hz : ns.length ≤ 1000 := by decide) : Ev X ρ (.Tuple es x1 pos) (.sh (.tup (ns.map D.int))) :=
  (Ev.tup (EvA.ints h) (by rw [List.length_map]; exact Nat.le_of_lt (small1000 hz))).cast (by rw [ers_mapG _ D.int fun _ => rfl])
theorem Ev.listI {ns : List Int} (h : constInts es = some ns := by rfl) (hz : ns.length ≤ 1000 := by decide) : Ev X ρ (.List es pos) (tR ns) :=
  Ev.list (EvA.ints h) (by rw [List.length_map]; exact Nat.le_of_lt (small1000 hz))
end
section
variable {M : Md} {N : List Str} {sc : Scope} {fc : Str → Bool} {k : Nat} {X : Cx} {ρ : Rho} {e a b c o : Expr} {es : List Expr} {t u : T} {ts : List T} {d : D} {ds ds' : List D} {pos apos p p1 p2 p3 pt pt2 : Pos} {x y : Str} {tg iter elt : Expr} {scope : Scope} {K : K3} {st : Stmt} {rest body : List Stmt} {i : Nat} {π : List Sp1}
end
theorem rps_ints {K : PySem.W.Frag} {H : Hp} : ∀ ns : List Int, Rps K H (ns.map V.int) (ns.map D.int)
  | [] => .nil
  | n :: ns => .cons (.int n) (rps_ints ns)
theorem cut_all {ns : List Int} {m : Nat} (h : ns.length ≤ m) : cutV (ns.map V.int) none (some (m : Int)) = ns.map V.int := by
  unfold cutV
  rw [HT.sIx_none, HT.sIx_nat, List.drop_zero, List.take_of_length_le]
  rw [List.length_map]
  omega
/-! ### instances of own classes -/
section
variable {K : PySem.W.Frag} {R H : Hp} {f : Str}
end
section
variable {M : Md} {N : List Str} {sc : Scope} {fc : Str → Bool} {k : Nat} {X : Cx} {ρ : Rho} {e a b c o : Expr} {es : List Expr} {t u : T} {ts : List T} {d : D} {ds ds' : List D} {pos apos p p1 p2 p3 pt pt2 : Pos} {x y f : Str} {tg iter elt : Expr} {scope : Scope} {KK : K3} {st : Stmt} {rest body : List Stmt} {i : Nat} {π : List Sp1} {C : Addr} {fs : List (Str × D)} {gs : List (Str × T)}
theorem kit_mk {K : PySem.W.Frag} {t : Value} {C : Addr} {b : Bool} (h1 : (PySem.W.clsIn K C).isSome = true) (ty : PySem.W.typeIn K (.ref C) = some (.type "type")) (s : PySem.W.subIn K t (.ref C) = some b) (ne : (t == .ref C) = false) : PySem.W.kitOne K t (.ref C) = some b := by
  unfold PySem.W.kitOne
  rw [if_neg (by rw [ne]; exact Bool.false_ne_true)]
  show (if _ then _ else _) = _
  rw [if_pos (by rw [h1, ty]; rfl)]
  exact s
end
/-! ### order of data -/
section
variable {X : Cx} {x y : D}
/-! ### sorted -/
end
section
variable {M : Md} {N : List Str} {sc : Scope} {fc : Str → Bool} {k : Nat} {X : Cx} {ρ : Rho} {e : Expr} {ds : List D} {p pos : Pos}
/-- x is one of ys -/
noncomputable def inB {α : Type} [DecidableEq α] (x : α) (ys : List α) : Bool := decide (x ∈ ys)
theorem inB_iff {α : Type} [DecidableEq α] {x : α} {ys : List α} : inB x ys = true ↔ x ∈ ys := decide_eq_true_iff
theorem inB_no {α : Type} [DecidableEq α] {x : α} {ys : List α} : inB x ys = false ↔ x ∉ ys := decide_eq_false_iff_not
noncomputable abbrev dTs (ts : List (List (List Int))) : D := .lst (ts.map dT)
theorem itRange2 {a b tg : Expr} {lo j : Int} {n : Nat} (hX : XF M N sc fc k X) (hm : M.mg "range" = none) (ha : Rd X ρ a (.int lo)) (hb : Rd X ρ b (.int j)) (hn : (j - lo).toNat = n) (h : -(2 ^ 62) ≤ lo ∧ lo < 2 ^ 62 ∧ -(2 ^ 62) ≤ j ∧ j < 2 ^ 62)
    (hs : starEach (a :: [b]) X.env = (false, eval a X.env) :: starEach [b] X.env := by rfl) (hs2 : starEach (b :: []) X.env = (false, eval b X.env) :: starEach [] X.env := by rfl) (hg : glB sc "range" = true := by decide +kernel) :
    ItF X ρ tg (.Call (.Name "range" p) [a, b] [] pos) ((List.range n).map fun (i : Nat) => D.int (lo + (i : Int))) := by
  subst hn
  exact ItF.range2 hX hm ha hb h hs hs2 hg
end
section
variable {M : Md} {N : List Str} {sc : Scope} {fc : Str → Bool} {k : Nat} {X : Cx} {ρ : Rho} {a e : Expr} {ds : List D} {p pos : Pos}
/-- a cut, of anything -/
noncomputable def cutN {α : Type} (xs : List α) (lo hi : Option Int) : List α := (xs.drop (HT.sIx xs.length 0 lo)).take (HT.sIx xs.length xs.length hi - HT.sIx xs.length 0 lo)
theorem cutD_map {α : Type} (f : α → D) (xs : List α) (lo hi : Option Int) : cutD (xs.map f) lo hi = (cutN xs lo hi).map f := by
  unfold cutD cutN
  rw [List.length_map, List.map_take, List.map_drop]
theorem cutN_len {α : Type} (xs : List α) (lo hi : Option Int) : (cutN xs lo hi).length ≤ xs.length := by
  unfold cutN
  rw [List.length_take, List.length_drop]
  omega
theorem er_shs (ds : List D) : T.er (.lst (ds.map T.sh)) = .lst ds := congrArg D.lst (ers_sh ds)
/-- xs[:hi], xs[lo:], xs[::-1], xs + ys, xs * n as shared lists -/
theorem e_cutH {α : Type} {f : α → D} {xs : List α} {hi : Expr} {i : Int} {p2 : Pos} (h : Ls X ρ a (xs.map f)) (hh : Rd X ρ hi (.int i)) : Ev X ρ (.Subscript a (.Slice none (some hi) none p2) pos) (.sh (.lst ((cutN xs none (some i)).map f))) :=
  (Ev.cutH h hh).fz' (by rw [er_shs, cutD_map])
theorem e_cutL {α : Type} {f : α → D} {xs : List α} {lo : Expr} {i : Int} {p2 : Pos} (h : Ls X ρ a (xs.map f)) (hl : Rd X ρ lo (.int i)) : Ev X ρ (.Subscript a (.Slice (some lo) none none p2) pos) (.sh (.lst ((cutN xs (some i) none).map f))) :=
  (Ev.cutL h hl).fz' (by rw [er_shs, cutD_map])
theorem e_cat {α : Type} {f : α → D} {xs ys : List α} {b : Expr} (h : Ls X ρ a (xs.map f)) (h' : Ls X ρ b (ys.map f)) (hz : xs.length + ys.length ≤ 10000) : Ev X ρ (.BinOp a .Add b pos) (.sh (.lst ((xs ++ ys).map f))) :=
  (Ev.cat h h' (by rw [List.length_map, List.length_map]; exact Nat.le_trans hz (by decide))).fz' (by rw [er_shs, List.map_append])
theorem rep1 {α : Type} (d : α) : ∀ n : Nat, (List.replicate n [d]).flatten = List.replicate n d
  | 0 => rfl
  | n + 1 => by
    rw [List.replicate_succ, List.replicate_succ, List.flatten_cons, rep1 d n]
    rfl
theorem e_rep {b : Expr} {d : D} {n : Nat} (h : Ls X ρ a [d]) (h' : Rd X ρ b (.int n)) (hz : n ≤ 1000) : Ev X ρ (.BinOp a .Mult b pos) (.sh (.lst (List.replicate n d))) :=
  (Ev.rep h h' (by omega) (by omega) (by rw [Int.toNat_natCast]; show 1 * n ≤ _; rw [Nat.one_mul]; exact Nat.le_of_lt (small1000 hz))).fz' (by rw [er_shs, Int.toNat_natCast, rep1])
end
/-! ### stores of shared data -/
noncomputable def Gs (X : Cx) (ρ : Rho) (tg : Expr) (d : D) (ρ' : Rho) : Prop := ∃ g : TG, PG X tg g ∧ ∀ (σ : L2.St) (H : Hp) (F G : List Addr) (v : V) (Q : L2.St → Hp → Prop), S3 X.K G σ H ρ F → Rp X.K (del (F ++ G) H) v d →
  (∀ σ' H' F', S3 X.K G σ' H' ρ' F' → Stp G F F' H H' → Q σ' H') → g v σ H Q
section
variable {M : Md} {N : List Str} {sc : Scope} {fc : Str → Bool} {k : Nat} {X : Cx} {ρ ρ1 ρ2 : Rho} {e a b c o t1 t2 : Expr} {es : List Expr} {t u : T} {ts : List T} {d d1 d2 : D} {ds ds' : List D} {pos apos p p1 p2 p3 pt pt2 : Pos} {x y : Str} {tg iter elt : Expr} {scope : Scope} {K : K3} {st : Stmt} {rest body : List Stmt} {i : Nat} {π : List Sp1}
theorem Gs.name (hX : XF M N sc fc k X) (i : Nat) (hN : N[i]? = some x := by rfl) (h : locB sc fc x = true := by decide +kernel) : Gs X ρ (.Name x pos) d (ρ.set i (some (.sh d))) := by
  refine ⟨_, hX.pg i hN h, fun σ H F G v Q S r q => ?_⟩
  obtain ⟨F', S', st⟩ := S.put (E := []) ⟨.refl _, (fun a z => nomatch z), List.nodup_nil, .sh r⟩ i
  exact q _ _ F' S' st
/-- o[b] = -/
theorem Gs.sub {m : Int} {j : Nat} {s : T} (hp : Pn X ρ o i π) (hb : Rd X ρ b (.int m)) (q : ixN ts.length m = some j) (hj : ts[j]? = some s) (hr : ρ[i]? = some (some t) := by rfl) (ht : T.at π t = some (.lst ts) := by rfl) (sb : SB X o b p := by intro _; rfl) : Gs X ρ (.Subscript o b p) d (ρ.set i (some (T.put π (.lst (ts.set j (.sh d))) t))) := by
  refine ⟨_, pg_sub pe_best pe_best set_list sb, fun σ H F G y Q S r Qh => ?_⟩
  refine hp σ H F G _ S fun v z H2 s2 ev va => hb σ H2 F G _ (S.sm s2) fun z2 H3 s3 r3 => ?_
  obtain ⟨v', q', vs, F2, e1, va', ha, hts, nF, hF, up⟩ := S.mut hr ht
  rw [ev] at e1
  cases e1
  have s03 := s2.trans s3
  have := (va.sm s3).inj (va'.sm s03)
  subst this
  obtain ⟨F2', hts', nF', sub⟩ := hts.nd (u := .sh d) j hj nF (R' := del (F2 ++ (F ++ G)) H3) (H' := H3) (w := y) (E := []) (del_new s03 fun x hx => by
      rcases List.mem_append.mp hx with z | z
      · exact .inl (List.mem_append_left _ (hF x z))
      · exact .inl z) (.of s03) (.sh (r.sm (del_new s03 fun x hx => by
      rcases List.mem_append.mp hx with z | z
      · exact .inl (List.mem_append_left _ (hF x z))
      · exact .inl z))) List.nodup_nil (fun x hx => nomatch hx)
  obtain ⟨F', S', st⟩ := up H3 (vs.set j y) (ts.set j (.sh d)) F2' s03 (fun x hx => (sub x hx).elim .inl fun z => nomatch z) nF' (hts'.less (del_sub fun x hx => by
      rcases List.mem_append.mp hx with z | z
      · rcases sub x z with z | z
        · exact List.mem_append_left _ z
        · cases z
      · exact List.mem_append_right _ z))
  exact ⟨q', vs, m, j, rfl, r3.intE, s03 _ _ ha, by rw [hts.len]; exact q, Qh σ _ F' S' st⟩
/-- a, b = -/
theorem Gs.tup2 {kt : Nat} (hX : XF M N sc fc k X) (h1 : Gs X ρ t1 d1 ρ1) (h2 : Gs X ρ1 t2 d2 ρ2) (e1 : (assignEach [t1, t2] X.env).map (·.2) = assign t1 X.env :: (assignEach [t2] X.env).map (·.2) := by rfl) (e2 : (assignEach [t2] X.env).map (·.2) = assign t2 X.env :: (assignEach [] X.env).map (·.2) := by rfl)
    (hn : (assignEach [t1, t2] X.env).length = 2 := by rfl) (hst : (assignEach [t1, t2] X.env).findIdx? (·.1) = none := by rfl) : Gs X ρ (.Tuple [t1, t2] kt pos) (.tup [d1, d2]) ρ2 := by
  obtain ⟨g1, pg1, q1⟩ := h1
  obtain ⟨g2, pg2, q2⟩ := h2
  refine ⟨_, pg_tup hX.calm (pgs_cons pg1 (pgs_cons pg2 pgs_nil e2) e1) hn hst, fun σ H F G v Q S r Qh => ?_⟩
  cases r with
  | tup hs rs =>
    cases rs with
    | cons r1 rs =>
      cases rs with
      | cons r2 rs =>
        cases rs
        refine ⟨_, _, rfl, SqT.sm del_le hs, rfl, _, _, rfl, q1 σ H F G _ _ S r1 fun σ1 H1 F1 S1 st1 => ⟨_, _, rfl, q2 σ1 H1 F1 G _ _ S1 (r2.sm st1.sh) fun σ2 H2 F2 S2 st2 => ⟨rfl, Qh σ2 H2 F2 S2 (st1.trans st2)⟩⟩⟩
theorem Sm.sto (he : Ev X ρ e (.sh d)) (hg : Gs X ρ tg d ρ1) (h : K.nx ρ1) (hs : swapsWithSole [tg] e pos.line X.env = pure false := by rfl) (hw : swappedStores [tg] e X.env = pure none := by rfl) (h1 : (assignEach [tg] X.env).map (·.2) = [assign tg X.env] := by rfl) : Sm X ρ (.Assign [tg] e pos) K := fun σ H F G D S w => by
  obtain ⟨g, pg, q⟩ := hg
  refine bestS.of (ps_asg pe_best pg hs hw h1) (he σ H F G _ S fun v H' E r => ?_)
  have r' := r.rt
  cases r' with
  | sh r' => exact q σ H' F G v _ (S.sm r.sm) r' fun σ' H2 F' S' st => w.nx σ' H2 _ F' S' ((Stp.of r.sm).trans st) h
/-- x, y = a, b: x or y is not just the def's own name; own nodes stay own -/
theorem Sm.parO {kt k2 : Nat} (hX : XF M N sc fc k X) (i j : Nat) (ha : EvA X ρ [a, b] [t, u]) (h : K.nx ((ρ.set i (some t)).set j (some u)))
    (hw : swappedStores [.Tuple [.Name x p1, .Name y p2] kt pt] (.Tuple [a, b] k2 pt2) (env0 sc) = pure none := by rfl) (hN : N[i]? = some x := by rfl) (hN2 : N[j]? = some y := by rfl) (hl : locB sc fc x = true := by decide +kernel) (hl2 : locB sc fc y = true := by decide +kernel)
    (hs : swapsWithSole [.Tuple [.Name x p1, .Name y p2] kt pt] (.Tuple [a, b] k2 pt2) pos.line X.env = pure false := by rfl) (h1 : (assignEach [.Tuple [.Name x p1, .Name y p2] kt pt] X.env).map (·.2) = [assign (.Tuple [.Name x p1, .Name y p2] kt pt) X.env] := by rfl) : Sm X ρ (.Assign [.Tuple [.Name x p1, .Name y p2] kt pt] (.Tuple [a, b] k2 pt2) pos) K := fun σ H F G D S w => by
  refine bestS.of (ps_asg (pe_tup pa_best) (hX.pg2 i j hN hl hN2 hl2 rfl) hs (by rw [swapped_eq, hX.s]; exact hw) h1) (ha σ H F G _ S fun vs H1 E r => ⟨by rw [r.rt.len]; exact Nat.le_of_lt (small1000 (n := 2) (by decide)), fun p hp => ?_⟩)
  have rt := r.rt
  have r' : ResA X.K (F ++ G) H (upd H1 p (.tup vs)) vs [t, u] E := ⟨r.sm.trans (same_upd hp), r.fr, r.nd, rt.sm (del_sm (same_upd hp)) (.of (same_upd hp))⟩
  cases rt with
  | @cons v _ _ _ _ _ a1 a2 =>
    cases a2 with
    | @cons v2 _ _ _ _ _ a2 a3 =>
      cases a3
      obtain ⟨F', S', st⟩ := S.put2 r' i j
      exact ⟨p, _, rfl, SqT.of upd_same, rfl, v, [v2], rfl, v2, [], rfl, rfl, w.nx _ _ _ F' S' st h⟩
end
/-! ### any of numbers -/
section
variable {M : Md} {N : List Str} {sc : Scope} {fc : Str → Bool} {k : Nat} {X : Cx} {ρ : Rho} {e : Expr} {p pos : Pos}
end
/-! ### the text of data -/
noncomputable def rStrD (K : PySem.W.Frag) : List V → Hp → VK → Prop := fun vs H Q => ∃ a d, vs = [V.ref a] ∧ Dp K H (.ref a) d ∧ d.showable = true ∧ d.hasDict = false ∧ d.depth ≤ 60 ∧ d.shown.length ≤ sizeLine ∧ Q (.str d.shown) H
theorem cr_strD {X : Cx} (gd : X.A.guards = some []) (hu : X.A.units + 64 < cLine) : CallR X (.type "str") (rStrD X.K) := by
  intro pins s σ H vs us Q I r h
  obtain ⟨a, d, rfl, hd, hs, hn, hp, hz, q⟩ := h
  rw [Vals.ref1 r]
  obtain ⟨as, rd⟩ := Dp.reads I d (.ref a) (.ref a) hd rfl
  exact str_of_reads rd hs (fun z => by rw [hn] at z; cases z) gd (by omega) (fun _ _ e => e) (fun h' u tk hk => ⟨.str d.shown, H, I.kept hk, ⟨u, rfl⟩, q⟩) hz
/-- the signs of texts behind one another -/
noncomputable def sgs : Nat → List Str → List Nat
  | _, [] => []
  | k, t :: ts => ((if k > 0 then ", " else "" : String) : Str).cps.toList ++ (t.cps.toList ++ sgs (k + 1) ts)
theorem cps_app (a b : Str) : (a ++ b).cps.toList = a.cps.toList ++ b.cps.toList := Array.toList_append
theorem textFrom_sgs : ∀ (ts : List Str) (k : Nat) (acc : Str), (textFrom k acc ts).cps.toList = acc.cps.toList ++ sgs k ts
  | [], k, acc => (List.append_nil _).symm
  | t :: ts, k, acc => by
    show (textFrom (k + 1) _ ts).cps.toList = _ ++ (_ ++ (_ ++ _))
    rw [textFrom_sgs ts (k + 1), cps_app, cps_app, List.append_assoc, List.append_assoc]
theorem listText_sgs (ts : List Str) : (listText ts).cps.toList = ("[" : Str).cps.toList ++ (sgs 0 ts ++ ("]" : Str).cps.toList) := by
  unfold listText
  rw [cps_app, textFrom_sgs, List.append_assoc]
noncomputable def sgLen : Nat → Nat → Nat → Nat
  | _, _, 0 => 0
  | k, c, n + 1 => (((if k > 0 then ", " else "" : String) : Str).cps.toList).length + (c + sgLen (k + 1) c n)
theorem sgs_len {c : Nat} : ∀ (ts : List Str) (k : Nat), (∀ t ∈ ts, t.cps.toList.length = c) → (sgs k ts).length = sgLen k c ts.length
  | [], k, _ => rfl
  | t :: ts, k, h => by
    show (_ ++ (_ ++ sgs (k + 1) ts)).length = _
    rw [List.length_append, List.length_append, sgs_len ts (k + 1) fun x hx => h x (List.mem_cons_of_mem _ hx), h t (List.mem_cons_self ..)]
    rfl
theorem str_eq {a b : Str} (h : a.cps.toList = b.cps.toList) : a = b := by
  cases a
  cases b
  exact congrArg Str.mk (Array.toList_inj.mp h)
theorem sgs_inj {c : Nat} : ∀ (ts us : List Str) (k : Nat), ts.length = us.length → (∀ t ∈ ts, t.cps.toList.length = c) → (∀ t ∈ us, t.cps.toList.length = c) → sgs k ts = sgs k us → ts = us
  | [], [], _, _, _, _, _ => rfl
  | [], u :: us, _, h, _, _, _ => by cases h
  | t :: ts, [], _, h, _, _, _ => by cases h
  | t :: ts, u :: us, k, h, h1, h2, e => by
    have e1 := List.append_cancel_left (show _ ++ (t.cps.toList ++ sgs (k + 1) ts) = _ ++ (u.cps.toList ++ sgs (k + 1) us) from e)
    obtain ⟨e2, e3⟩ := List.append_inj e1 (by rw [h1 t (List.mem_cons_self ..), h2 u (List.mem_cons_self ..)])
    rw [str_eq e2, sgs_inj ts us (k + 1) (Nat.succ.inj h) (fun x hx => h1 x (List.mem_cons_of_mem _ hx)) (fun x hx => h2 x (List.mem_cons_of_mem _ hx)) e3]
theorem listText_inj {c : Nat} {ts us : List Str} (h : ts.length = us.length) (h1 : ∀ t ∈ ts, t.cps.toList.length = c) (h2 : ∀ t ∈ us, t.cps.toList.length = c) (e : listText ts = listText us) : ts = us := by
  have e1 := congrArg (fun s : Str => s.cps.toList) e
  have e2 : (listText ts).cps.toList = (listText us).cps.toList := e1
  rw [listText_sgs, listText_sgs] at e2
  have e3 := List.append_cancel_left e2
  exact sgs_inj ts us 0 h h1 h2 (List.append_cancel_right e3)
theorem listText_len {c : Nat} {ts : List Str} (h1 : ∀ t ∈ ts, t.cps.toList.length = c) : (listText ts).cps.toList.length = 2 + sgLen 0 c ts.length := by
  rw [listText_sgs, List.length_append, List.length_append, sgs_len ts 0 h1]
  have e1 : (("[" : Str).cps.toList).length = 1 := by decide +kernel
  have e2 : (("]" : Str).cps.toList).length = 1 := by decide +kernel
  rw [e1, e2]
  omega
theorem shownAll_map {α : Type} (f : α → D) : ∀ xs : List α, PyData.shownAll (pys (xs.map f)) = xs.map fun a => (py (f a)).shown
  | [] => rfl
  | a :: xs => by
    show _ :: PyData.shownAll (pys (xs.map f)) = _ :: _
    rw [shownAll_map f xs]
/-- one sign a rest -/
noncomputable def dig (i : Int) : Str := toString i
theorem dig_ok {i : Int} (h0 : 0 ≤ i) (h7 : i < 7) : (dig i).cps.toList = [48 + i.toNat] := by
  have : i = 0 ∨ i = 1 ∨ i = 2 ∨ i = 3 ∨ i = 4 ∨ i = 5 ∨ i = 6 := by omega
  rcases this with e | e | e | e | e | e | e <;> subst e <;> decide +kernel
/-- the text of a row, of a table -/
noncomputable def rowText (r : List Int) : Str := listText (r.map dig)
noncomputable def tabText (t : List (List Int)) : Str := listText (t.map rowText)
theorem shown_dT (t : List (List Int)) : (py (dT t)).shown = tabText t := by
  show listText (PyData.shownAll (pys (t.map dR))) = _
  rw [shownAll_map]
  unfold tabText
  congr 1
  refine List.map_congr_left fun r _ => ?_
  show listText (PyData.shownAll (pys (r.map D.int))) = _
  rw [shownAll_map]
  rfl
theorem rowText_len {n : Nat} {r : List Int} (hl : r.length = n) (h : ∀ x ∈ r, 0 ≤ x ∧ x < 7) : (rowText r).cps.toList.length = 2 + sgLen 0 1 n := by
  unfold rowText
  rw [listText_len (c := 1) fun t ht => by
    obtain ⟨x, hx, rfl⟩ := List.mem_map.mp ht
    rw [dig_ok (h x hx).1 (h x hx).2]
    rfl, List.length_map, hl]
theorem map_inj_on {α β : Type} {f : α → β} : ∀ {xs ys : List α}, (∀ a ∈ xs, ∀ b ∈ ys, f a = f b → a = b) → xs.map f = ys.map f → xs = ys
  | [], [], _, _ => rfl
  | [], y :: ys, _, e => by cases e
  | x :: xs, [], _, e => by cases e
  | x :: xs, y :: ys, h, e => by
    have e := List.cons.inj e
    rw [h x (List.mem_cons_self ..) y (List.mem_cons_self ..) e.1, map_inj_on (fun a ha b hb => h a (List.mem_cons_of_mem _ ha) b (List.mem_cons_of_mem _ hb)) e.2]
theorem rowText_inj {n : Nat} {r s : List Int} (hr : r.length = n) (hs : s.length = n) (h1 : ∀ x ∈ r, 0 ≤ x ∧ x < 7) (h2 : ∀ x ∈ s, 0 ≤ x ∧ x < 7) (e : rowText r = rowText s) : r = s := by
  have e1 := listText_inj (c := 1) (by rw [List.length_map, List.length_map, hr, hs]) (fun t ht => by
    obtain ⟨x, hx, rfl⟩ := List.mem_map.mp ht
    rw [dig_ok (h1 x hx).1 (h1 x hx).2]
    rfl) (fun t ht => by
    obtain ⟨x, hx, rfl⟩ := List.mem_map.mp ht
    rw [dig_ok (h2 x hx).1 (h2 x hx).2]
    rfl) e
  refine map_inj_on (fun a ha b hb q => ?_) e1
  have q' := congrArg (fun s : Str => s.cps.toList) q
  have q2 : (dig a).cps.toList = (dig b).cps.toList := q'
  rw [dig_ok (h1 a ha).1 (h1 a ha).2, dig_ok (h2 b hb).1 (h2 b hb).2] at q2
  have := (List.cons.inj q2).1
  have := h1 a ha
  have := h2 b hb
  omega
theorem tabText_inj {n : Nat} {s t : List (List Int)} (hs : s.length = n) (ht : t.length = n) (h1 : ∀ r ∈ s, r.length = n ∧ ∀ x ∈ r, 0 ≤ x ∧ x < 7) (h2 : ∀ r ∈ t, r.length = n ∧ ∀ x ∈ r, 0 ≤ x ∧ x < 7) (e : tabText s = tabText t) : s = t := by
  have e1 := listText_inj (c := 2 + sgLen 0 1 n) (by rw [List.length_map, List.length_map, hs, ht]) (fun x hx => by
    obtain ⟨r, hr, rfl⟩ := List.mem_map.mp hx
    exact rowText_len (h1 r hr).1 (h1 r hr).2) (fun x hx => by
    obtain ⟨r, hr, rfl⟩ := List.mem_map.mp hx
    exact rowText_len (h2 r hr).1 (h2 r hr).2) e
  exact map_inj_on (fun a ha b hb q => rowText_inj (h1 a ha).1 (h2 b hb).1 (h1 a ha).2 (h2 b hb).2 q) e1
theorem showable_all {α : Type} (f : α → D) : ∀ xs : List α, (∀ a ∈ xs, (py (f a)).showable = true) → PyData.showableAll (pys (xs.map f)) = true
  | [], _ => rfl
  | a :: xs, h => by
    show ((py (f a)).showable && PyData.showableAll (pys (xs.map f))) = true
    rw [h a (List.mem_cons_self ..), showable_all f xs fun b hb => h b (List.mem_cons_of_mem _ hb)]
    rfl
section
variable {M : Md} {N : List Str} {sc : Scope} {fc : Str → Bool} {k : Nat} {X : Cx} {ρ : Rho} {e : Expr} {p pos : Pos}
/-- str(t), t a table -/
theorem e_strT {n : Nat} {t : List (List Int)} (hX : XF M N sc fc k X) (hm : M.mg "str" = none) (hn : n ≤ 3) (hl : t.length = n) (h : ∀ r ∈ t, r.length = n ∧ ∀ x ∈ r, 0 ≤ x ∧ x < 7) (ha : Rd X ρ e (dT t)) (hs : starEach (e :: []) X.env = (false, eval e X.env) :: starEach [] X.env := by rfl) (hg : glB sc "str" = true := by decide +kernel) :
    Ev X ρ (.Call (.Name "str" p) [e] [] pos) (.sh (.str (tabText t))) :=
  callTy hX (cr_strD hX.gd hX.room.units) hg hm PyProof.Rows.boot_str (by decide) trivial (.one ha hs) (fun vs H Q r q => by
    obtain ⟨v, rfl, r'⟩ := r.one
    have ok := ok_dT t
    have hd := r'.dp ok.1
    have sl : (py (dT t)).shown.length ≤ sizeLine := by
      rw [shown_dT]
      show (tabText t).cps.size ≤ _
      rw [← Array.length_toList]
      unfold tabText
      rw [listText_len (c := 2 + sgLen 0 1 n) fun x hx => by
        obtain ⟨r, hr, rfl⟩ := List.mem_map.mp hx
        exact rowText_len (h r hr).1 (h r hr).2, List.length_map, hl]
      have : n = 0 ∨ n = 1 ∨ n = 2 ∨ n = 3 := by omega
      refine Nat.le_of_lt (small1000 ?_)
      rcases this with e | e | e | e <;> subst e <;> decide +kernel
    have ss : (py (dT t)).showable = true := by
      show PyData.showableAll (pys (t.map dR)) = true
      refine showable_all dR t fun r hr => ?_
      show PyData.showableAll (pys (r.map D.int)) = true
      refine showable_all D.int r fun x hx => ?_
      show decide (x.natAbs.log2 < 1920) = true
      have hx := (h r hr).2 x hx
      refine decide_eq_true ?_
      by_cases z : x.natAbs = 0
      · rw [z]
        decide
      · refine Nat.lt_trans ((Nat.log2_lt z).mpr (show x.natAbs < 2 ^ 3 by omega)) (by decide)
    have q' := q (.str (tabText t)) (.str _)
    cases r' with
    | lst h1 h2 => exact ⟨_, _, rfl, hd, ss, PyData.hasDict_of_canLay _ (pl_lay _ ok.1), Nat.le_trans ok.2 (by decide), sl, by rw [shown_dT]; exact q'⟩) hs
end
/-! ### dicts of one's own -/
noncomputable def valD (ds : List (Key × D)) (k : Key) : Option D := (ds.find? fun kv => decide (kv.1 = k)).map (·.2)
theorem valD_snoc (ds : List (Key × D)) (k j : Key) (d : D) (h : valD ds k = none) : valD (ds ++ [(k, d)]) j = if j = k then some d else valD ds j := by
  unfold valD at h ⊢
  rw [List.find?_append]
  by_cases e : j = k
  · subst e
    rw [if_pos rfl]
    cases q : ds.find? fun kv => decide (kv.1 = j) with
    | some x => rw [q] at h; cases h
    | none =>
      rw [List.find?_cons_of_pos (by simp)]
      rfl
  · rw [if_neg e]
    cases q : ds.find? fun kv => decide (kv.1 = j) with
    | some x => rfl
    | none =>
      rw [List.find?_cons_of_neg (by simpa using fun z => e z.symm)]
      rfl
section
variable {K : PySem.W.Frag} {H : Hp}
theorem Rpk.val : ∀ {vs : List (Key × V)} {ds : List (Key × D)}, Rpk K H vs ds → ∀ k, (valV vs k = none ∧ valD ds k = none) ∨ ∃ v d, valV vs k = some v ∧ valD ds k = some d ∧ Rp K H v d
  | _, _, .nil, k => .inl ⟨rfl, rfl⟩
  | _, _, .cons (n := n) (v := v) (d := d) (ds := ds) h hs, k => by
    by_cases e : n = k
    · refine .inr ⟨v, d, valV_pos e, ?_, h⟩
      unfold valD
      rw [List.find?_cons_of_pos (by simpa using e)]
      rfl
    · have e2 : valD ((n, d) :: ds) k = valD ds k := by
        unfold valD
        rw [List.find?_cons_of_neg (by simpa using e)]
      rw [valV_neg e, e2]
      exact Rpk.val hs k
theorem Rpk.snoc {k : Key} {v : V} {d : D} (r : Rp K H v d) : ∀ {vs : List (Key × V)} {ds : List (Key × D)}, Rpk K H vs ds → Rpk K H (vs ++ [(k, v)]) (ds ++ [(k, d)])
  | _, _, .nil => .cons r .nil
  | _, _, .cons h hs => .cons h (Rpk.snoc r hs)
theorem Rpk.len : ∀ {vs : List (Key × V)} {ds : List (Key × D)}, Rpk K H vs ds → vs.length = ds.length
  | _, _, .nil => rfl
  | _, _, .cons _ hs => congrArg Nat.succ (Rpk.len hs)
theorem Rpk.snd : ∀ {vs : List (Key × V)} {ds : List (Key × D)}, Rpk K H vs ds → Rps K H (vs.map (·.2)) (ds.map (·.2))
  | _, _, .nil => .nil
  | _, _, .cons h hs => .cons h (Rpk.snd hs)
end
/-- a slot's own dict, and what its change makes of the state -/
theorem S3.dic {K : PySem.W.Frag} {G F : List Addr} {H : Hp} {σ : L2.St} {ρ : Rho} {i : Nat} {ds : List (Key × D)} (S : S3 K G σ H ρ F) (hr : ρ[i]? = some (some (.dic ds))) :
    ∃ a vs, σ[i]? = some (some (.ref a)) ∧ H a = some (.dK vs) ∧ Rpk K (del (F ++ G) H) vs ds ∧
      ∀ (H2 : Hp) (vs' : List (Key × V)) (ds' : List (Key × D)), Same H H2 → Rpk K (del (F ++ G) H2) vs' ds' → S3 K G σ (upd H2 a (.dK vs')) (ρ.set i (some (.dic ds'))) F ∧ Stp G F F H (upd H2 a (.dK vs')) := by
  obtain ⟨v, F1, F2, F3, e1, r, e2, f⟩ := S.ro.get hr
  cases r with
  | @dic a vs _ ha hk =>
    have hF : F = F1 ++ ([a] ++ F3) := e2
    have aF : a ∈ F := by rw [hF]; simp
    refine ⟨a, vs, e1, ha, hk, fun H2 vs' ds' sm rk => ?_⟩
    have s1 : Same (del (F ++ G) H) (del (F ++ G) (upd H2 a (.dK vs'))) := fun b o q => by
      obtain ⟨q1, q2⟩ := del_some q
      refine (del_out q1).trans ((upd_ne fun z => q1 ?_).trans (sm _ _ q2))
      rw [z]
      exact List.mem_append_left _ aF
    have s2 : Same (del (F ++ G) H2) (del (F ++ G) (upd H2 a (.dK vs'))) := fun b o q => by
      obtain ⟨q1, q2⟩ := del_some q
      refine (del_out q1).trans ((upd_ne fun z => q1 ?_).trans q2)
      rw [z]
      exact List.mem_append_left _ aF
    have nd := S.nd
    have ap : ∀ b ∈ F1 ++ F3, b ≠ a := fun b hb z => by
      rw [hF] at nd
      subst z
      simp only [List.nodup_append, List.mem_append, List.mem_cons, List.not_mem_nil, or_false] at nd hb
      obtain ⟨⟨_, ⟨_, _, n3⟩, n2⟩, _⟩ := nd
      rcases hb with z | z
      · exact n2 b z b (.inl rfl) rfl
      · exact n3 b rfl b z rfl
    have aG : a ∉ G := fun z => (List.nodup_append.mp nd).2.2 a aF a z rfl
    have ro := f (.ref a) (del (F ++ G) (upd H2 a (.dK vs'))) (upd H2 a (.dK vs')) (.dic ds') [a] s1 (fun b hb o q => (upd_ne (ap b hb)).trans (sm _ _ q)) (.dic upd_same (rk.sm s2))
    rw [← hF, set_self e1] at ro
    refine ⟨⟨ro, nd, fun b hb => ?_⟩, s1, fun b hb o q => (upd_ne fun z => aG (by rw [← z]; exact hb)).trans (sm _ _ q)⟩
    obtain ⟨o, q⟩ := S.gs b hb
    exact ⟨o, (upd_ne fun z => aG (by rw [← z]; exact hb)).trans (sm _ _ q)⟩
section
variable {M : Md} {N : List Str} {sc : Scope} {fc : Str → Bool} {k : Nat} {X : Cx} {ρ : Rho} {e a b c o : Expr} {es : List Expr} {t u : T} {d : D} {ds : List (Key × D)} {pos apos p p1 p2 p3 pt : Pos} {x y : Str} {K : K3} {i : Nat}
/-- {} -/
theorem Ev.dic0 : Ev X ρ (.Dict [] [] pos) (.dic []) := fun σ H F G Q S k => best.of pe_dnewK fun p hp => k (.ref p) _ [p] ⟨same_upd hp, fun a ha => by rw [List.mem_singleton.mp ha]; exact hp, List.nodup_cons.mpr ⟨(fun h => nomatch h), List.nodup_nil⟩, .dic upd_same .nil⟩
/-- a dict's name, what is evaluated ahead of it, what is asked of it -/
theorem dic_core (hX : XF M N sc fc k X) (i : Nat) (hr : ρ[i]? = some (some (.dic ds))) (hN : N[i]? = some x) (hv : visB sc x = true) {pos : Pos} {σ : L2.St} {H : Hp} {F G : List Addr} (S : S3 X.K G σ H ρ F) {Q : VK}
    (h : ∀ a vs, σ[i]? = some (some (.ref a)) → H a = some (.dK vs) → Rpk X.K (del (F ++ G) H) vs ds → Q (.ref a) H) : best X (.Name x pos) σ H Q := by
  obtain ⟨a, vs, e1, ha, hk, _⟩ := S.dic hr
  obtain ⟨v1, v2, v3⟩ := visB_ok hv
  exact best.of (pe_var (by rw [hX.n]; exact hN) (by rw [hX.s]; exact v1) v2 v3) ⟨.ref a, e1, h a vs e1 ha hk⟩
theorem u1 (hX : XF M N sc fc k X) : X.A.units + 1 < cLine := hu_of hX.room
/-- s not in d, s a text -/
theorem Te.dnin {s : Str} (hX : XF M N sc fc k X) (i : Nat) (he : Rd X ρ e (.str s)) (hr : ρ[i]? = some (some (.dic ds)) := by rfl) (hN : N[i]? = some x := by rfl) (hv : visB sc x = true := by decide +kernel) (hm : behindInMarks .NotIn (.Name x p) = false := by first | exact nomark _ | rfl) :
    Te X ρ (.Compare e [.NotIn] [.Name x p] pos) (valD ds (.inr s)).isNone := fun σ H F G Q S k =>
  bestT.of (pt_cmp (pc_dnotin (u1 hX) pe_best pe_best) hm) (he σ H F G _ S fun v H1 s1 r1 => dic_core hX i hr hN hv (S.sm s1) fun a vs _ ha hk => by
    rw [r1.strE]
    refine ⟨a, valV vs (.inr s), rfl, DGet.k (k := .inr s) ha, _, rfl, ?_⟩
    have : (!(valV vs (.inr s)).isSome) = (valD ds (.inr s)).isNone := by
      rcases hk.val (.inr s) with ⟨e1, e2⟩ | ⟨v, d, e1, e2, _⟩ <;> rw [e1, e2] <;> rfl
    rw [this]
    exact k H1 s1)
/-- d[s] -/
theorem Ev.dget {s : Str} (hX : XF M N sc fc k X) (i : Nat) (he : Rd X ρ e (.str s)) (hd : valD ds (.inr s) = some d) (hs : NoSl e := by intro _ _; rfl) (hr : ρ[i]? = some (some (.dic ds)) := by rfl) (hN : N[i]? = some x := by rfl) (hv : visB sc x = true := by decide +kernel) : Ev X ρ (.Subscript (.Name x p) e pos) (.sh d) := fun σ H F G Q S k =>
  best.of (pe_dget (u1 hX) pe_best pe_best hs) (dic_core hX i hr hN hv S fun a vs _ ha hk => he σ H F G _ S fun v H1 s1 r1 => by
    rw [r1.strE]
    rcases hk.val (.inr s) with ⟨_, e2⟩ | ⟨v, d', e1, e2, r⟩
    · rw [hd] at e2
      cases e2
    · rw [hd] at e2
      cases e2
      exact ⟨a, v, rfl, by have := DGet.k (k := .inr s) (s1 _ _ ha); rw [e1] at this; exact this, k v H1 [] ⟨s1, (fun a z => nomatch z), List.nodup_nil, .sh (r.sm (del_sm s1))⟩⟩)
/-- d[s] = e, s new -/
theorem Sm.dput {s : Str} (hX : XF M N sc fc k X) (i : Nat) (he : Ev X ρ e (.sh d)) (hs : Rd X ρ b (.str s)) (hd : valD ds (.inr s) = none) (hz : ds.length < 1000) (h : K.nx (ρ.set i (some (.dic (ds ++ [(.inr s, d)]))))) (hr : ρ[i]? = some (some (.dic ds)) := by rfl) (hN : N[i]? = some x := by rfl) (hv : visB sc x = true := by decide +kernel)
    (sw : swapsWith e (some (.Subscript (.Name x p1) b p)) pos.line X.env = pure false := by exact sw_no rfl) : Sm X ρ (.Assign [.Subscript (.Name x p1) b p] e pos) K := fun σ H F G D S w =>
  bestS.of (ps_dput (u1 hX) pe_best pe_best pe_best sw) (he σ H F G _ S fun v H1 E r => by
    have rt := r.rt
    cases rt with
    | sh rv =>
      refine dic_core hX i hr hN hv (S.sm r.sm) fun a vs ea ha hk => hs σ H1 F G _ (S.sm r.sm) fun v2 H2 s2 r2 => ?_
      rw [r2.strE]
      obtain ⟨a', vs', e1, ha', hk', up⟩ := S.dic hr
      rw [ea] at e1
      cases e1
      have nv : valV vs (.inr s) = none := by
        rcases hk.val (.inr s) with ⟨z, _⟩ | ⟨_, _, _, z, _⟩
        · exact z
        · rw [hd] at z
          cases z
      obtain ⟨S', st⟩ := up H2 (vs ++ [(.inr s, v)]) (ds ++ [(.inr s, d)]) (r.sm.trans s2) ((hk.sm (del_sm s2)).snoc (Rp.sm (H := del (F ++ G) H1) (del_sm s2) rv))
      have dp := DPut.k (k := .inr s) (v := v) (s2 _ _ ha) (by rw [hk.len]; exact small1000 (Nat.le_of_lt hz))
      rw [putK_new v nv] at dp
      exact ⟨a, _, rfl, dp, w.nx _ _ _ F S' st h⟩)
/-- len(d) -/
theorem e_lenD (hX : XF M N sc fc k X) (hm : M.mg "len" = none) (i : Nat) (hr : ρ[i]? = some (some (.dic ds)) := by rfl) (hN : N[i]? = some x := by rfl) (hv : visB sc x = true := by decide +kernel)
    (hs : starEach (.Name x p1 :: []) X.env = (false, eval (.Name x p1) X.env) :: starEach [] X.env := by rfl) (hg : glB sc "len" = true := by decide +kernel) : Ev X ρ (.Call (.Name "len" p) [.Name x p1] [] pos) (.sh (.int ds.length)) := by
  obtain ⟨h1, h2⟩ := hX.gl hg
  refine Ev.of_sc (pe_callB call_lenD h1 (by rw [hX.m]; exact hm) PySem.boot_len (pa_cons pe_best pa_nil hs) (by decide) h2 hs rfl) trivial fun σ H F G Q S kk => dic_core hX i hr hN hv S fun a vs _ ha hk => ?_
  refine ⟨a, vs, rfl, ha, ?_⟩
  rw [hk.len]
  exact kk _ H (.refl _) (.int _)
/-- a view of a dict's values -/
noncomputable def vwO (p a : Addr) : HO := .ext fun h => h.IsValuesView p a
/-- e.values() -/
theorem pe_vals {X : Cx} {e : Expr} {te : TE} {apos pos : Pos} (he : PE X e te) (hb : attributeBase e "values" X.env (eval e X.env) = eval e X.env) (hl : (apos.endLine == pos.line) = true) :
    PE X (.Call (.Attribute e "values" apos) [] [] pos) fun σ H Q => te σ H fun x H1 => ∃ a kvs, x = .ref a ∧ H1 a = some (.dK kvs) ∧ ∀ p, H1 p = none → Q (.ref p) (upd H1 p (vwO p a)) := by
  refine ⟨fun pins s σ H Q I h => wpAny_Call_method (T := "dict") (id := "dict.values") hb rfl hl PySem.F.plainAttrs_dict PySem.F.slot_dict_values PySem.F.type_dict_values (thn (he.run pins s σ H _ I h) fun u s1 ⟨x, H1, I1, rx, a, kvs, ex, ha, q⟩ => ?_)⟩
  cases ex
  cases rx
  obtain ⟨_, lo, vs, _, hd⟩ := dk_of I1.hok ha
  refine ⟨hd.typeIs, hd.mapOf.noDict, ?_⟩
  show wpAny _ _ (callWith pos (.builtin "dict.values") [.ref a] [] []) _ X.xe s1
  refine method_meetsIn PySem.F.slot_dict_values PySem.F.entry_dict_values rfl (PySem.evalArgs_none ⟨rfl, hd.typeIs, PySem.F.args_dict_values_1 _, _, meets_dict_values (mixKind X.prog X.w) a lo, ⟨vs, hd⟩, ?_⟩)
  have hg := Heap.get?_push_size (h := s1.heap) (o := { cls := .type "dict_values", data := .fields #[.ref a] }) rfl
  exact ⟨.ref s1.heap.objs.size, _, I1.laid (t' := s1.toks) (o := vwO s1.heap.objs.size a) (fun b o e => Heap.get?_push_of_some _ e) (Nat.le_refl _) ⟨⟨_, hg, rfl, rfl⟩, ⟨_, hg⟩, fun h1 h2 ⟨o, e1, e2, e3⟩ k => ⟨o, k o e1, e2, e3⟩⟩, rfl, q _ (I1.hok.fresh (Nat.le_refl _))⟩
/-- list(view) -/
noncomputable def rListV : List V → Hp → VK → Prop := fun vs H Q => ∃ p a kvs, vs = [V.ref p] ∧ H p = some (vwO p a) ∧ H a = some (.dK kvs) ∧ ∀ q, H q = none → Q (.ref q) (upd H q (.lst (kvs.map (·.2))))
theorem kv_at : ∀ {kvs : List (Key × V)} {ws : List (Key × Value)}, KV kvs ws → ∀ {j : Nat} {x : V}, (kvs.map (·.2))[j]? = some x → ∃ k w, ws[j]? = some (k, w) ∧ RelV x w
  | _, _, .nil, j, x, h => by cases h
  | _, _, .cons (b := y) r rs, 0, x, h => by
    cases h
    exact ⟨y.1, y.2, rfl, r.2⟩
  | _, _, .cons r rs, j + 1, x, h => kv_at rs (j := j) h
theorem cr_listV {X : Cx} (hc : X.calm = true) : CallR X (.type "list") rListV := by
  intro pins s σ H vs us Q I r h
  obtain ⟨p, a, kvs, rfl, hp, ha, q⟩ := h
  rw [Vals.ref1 r]
  have hv : s.heap.IsValuesView p a := (show ObjOk X.prog X.w H s.heap p (vwO p a) from I.hok p _ hp).1
  obtain ⟨hz, lo, ws, kv, hd⟩ := dk_of I.hok ha
  obtain ⟨es, ep, hr, hn, hes⟩ := hd.raw
  have hl : kvs.length = ws.length := kv.length
  refine PySem.W.kdl_call (PySem.KdlSrc.rawValues (r := p) (d := a) (es := es) (ep := ep)) (I.ok.hd hc) ⟨hv, hr⟩ (by rw [hn, ← hl]; exact hz) fun h' tk acc c hk hS hacc => ?_
  refine ⟨.ref s.heap.objs.size, upd H s.heap.objs.size (.lst (kvs.map (·.2))), I.laid hk (Nat.le_refl _) (show ObjOk X.prog X.w _ _ _ (.lst (kvs.map (·.2))) from ⟨by rw [List.length_map]; exact hz, acc.toList, c, ?_, by rw [Array.toArray_toList]; exact hS⟩), rfl, q _ (I.hok.fresh (Nat.le_refl _))⟩
  refine vals_of_at (by
    have e := hacc.1
    rw [← Array.length_toList] at e
    rw [List.length_map, e, hn, hl]) fun j x u h1 h2 => ?_
  obtain ⟨hi, e⟩ := hacc.2 j u (by rw [← Array.getElem?_toList]; exact h2)
  obtain ⟨k, w, hw, rw'⟩ := kv_at kv h1
  rw [e, (hes j hi k w hw).2]
  exact rw'
/-- list(d.values()) -/
theorem e_vals {X : Cx} {M : Md} {N : List Str} {sc : Scope} {fc : Str → Bool} {k : Nat} {ρ : Rho} {x : Str} {ds : List (Key × D)} {p p1 pos apos : Pos} {es : List Expr} (hX : XF M N sc fc k X) (hm : M.mg "list" = none) (i : Nat) (hr : ρ[i]? = some (some (.dic ds)) := by rfl) (hN : N[i]? = some x := by rfl) (hv : visB sc x = true := by decide +kernel)
    (hb : attributeBase (.Name x p) "values" X.env (eval (.Name x p) X.env) = eval (.Name x p) X.env := by rfl) (hl : (apos.endLine == p1.line) = true := by rfl)
    (hs : starEach (.Call (.Attribute (.Name x p) "values" apos) [] [] p1 :: []) X.env = (false, eval (.Call (.Attribute (.Name x p) "values" apos) [] [] p1) X.env) :: starEach [] X.env := by rfl) (hg : glB sc "list" = true := by decide +kernel) :
    Ev X ρ (.Call (.Name "list" p2) [.Call (.Attribute (.Name x p) "values" apos) [] [] p1] [] pos) (.lst ((ds.map (·.2)).map T.sh)) := by
  obtain ⟨h1, h2⟩ := hX.gl hg
  intro σ H F G Q S kk
  refine best.of (pe_callTy (cr_listV hX.calm) h1 (by rw [hX.m]; exact hm) PyProof.Rows.boot_list (pa_cons (pe_vals pe_best hb hl) pa_nil hs) (by decide) h2 hs rfl) (dic_core hX i hr hN hv S fun a vs _ ha hk => ⟨a, vs, rfl, ha, fun q hq => ?_⟩)
  have s1 : Same H (upd H q (vwO q a)) := same_upd hq
  refine ⟨q, a, vs, rfl, upd_same, s1 _ _ ha, fun z hz => ?_⟩
  exact kk _ _ _ (new_sh S s1 (hk.snd.sm (del_sm s1)) hz)
end
/-! ### l.index(x) -/
section
variable {M : Md} {N : List Str} {sc : Scope} {fc : Str → Bool} {k : Nat} {X : Cx} {ρ : Rho} {e o : Expr} {pos apos p : Pos}
end
/-! ### sum(lists, []) -/
section
open PySem.Calls
variable {prog : Program} {w : World} {A : Around} {R : Result → Shared → Prop} {I : Addr} {fp wr : List Addr} {G : Array GenState → Array GenState → Prop} {P : Nat → Value → Prop} {St : Nat → Shared → Prop}
end
section
open PySem.Calls
variable {prog : Program} {w : World} {A : Around} {E : Value → Shared → Prop} {s : Shared}
end
section
variable {X : Cx} {σ : L2.St} {H : Hp} {s : Shared}
end
section
variable {M : Md} {N : List Str} {sc : Scope} {fc : Str → Bool} {k : Nat} {X : Cx} {ρ : Rho} {e : Expr} {p p1 pos : Pos} {x1 : Nat}
end
/-! ### xs[::k] -/
section
variable {M : Md} {N : List Str} {sc : Scope} {fc : Str → Bool} {X : Cx} {ρ : Rho} {a es : Expr} {ds : List D} {pos p3 : Pos}
end
/-! ### a, b, c = -/
section
variable {M : Md} {N : List Str} {sc : Scope} {fc : Str → Bool} {k : Nat} {X : Cx} {ρ ρ1 ρ2 ρ3 : Rho} {t1 t2 t3 : Expr} {d1 d2 d3 : D} {pos : Pos}
end
/-! ### what is new, behind a heap -/
section
variable {K : PySem.W.Frag} {R H H' : Hp}
theorem wit_int {v : V} {H0 : Hp} {i : Int} (h : Rp K H v (.wit H0 i)) : Rp K H v (.int i) := by
  cases h
  exact .int _
theorem wit_dom {v : V} {H0 : Hp} {i : Int} (h : Rp K H v (.wit H0 i)) : Dom H0 H := by
  cases h
  assumption
theorem frT_rp {v : V} {H0 : Hp} {t : List (List Int)} (h : Rp K H v (.frT H0 t)) : Rp K H v (dT t) := by
  cases h with
  | frT a b => exact tab_rp (b.sm hid_le)
/-- own rows as they lie -/
theorem RTs.ints : ∀ {r : List Int} {vs : List V} {F : List Addr}, RTs K R H vs (r.map tI) F → vs = r.map V.int ∧ F = []
  | [], _, _, .nil => ⟨rfl, rfl⟩
  | _ :: _, _, _, .cons (.sh h) k => by
    cases h
    obtain ⟨e1, e2⟩ := RTs.ints k
    subst e1 e2
    exact ⟨rfl, rfl⟩
theorem only_more {F G : List Addr} (h : ∀ a ∈ F, a ∈ G) : Same (only F H) (only G H) := fun b o q => by
  obtain ⟨h1, h2⟩ := only_in q
  unfold only
  rw [if_pos (h b h1)]
  exact h2
theorem only_mk {F : List Addr} {b : Addr} {o : HO} (h : b ∈ F) (q : H b = some o) : only F H b = some o := by
  unfold only
  rw [if_pos h]
  exact q
theorem RTs.rowsAt : ∀ {rs : List (List Int)} {vs : List V} {F : List Addr}, RTs K R H vs (rs.map tR) F → RowsAt (only F H) vs rs
  | [], _, _, .nil => .nil
  | _ :: _, _, _, .cons (.lst h i) k => by
    obtain ⟨e1, e2⟩ := i.ints
    subst e1 e2
    exact .cons ⟨_, rfl, only_mk (List.mem_append_left _ (List.mem_singleton.mpr rfl)) h⟩ ((RTs.rowsAt k).sm (only_more fun a ha => List.mem_append_right _ ha))
theorem RT.tabAt {t : List (List Int)} {v : V} {F : List Addr} (h : RT K R H v (tT t) F) : TabAt (only F H) v t := by
  cases h with
  | lst h i => exact ⟨_, _, rfl, only_mk (List.mem_cons_self ..) h, (i.rowsAt).sm (only_more fun a ha => List.mem_cons_of_mem _ ha)⟩
end
section
variable {M : Md} {N : List Str} {sc : Scope} {fc : Str → Bool} {k : Nat} {X : Cx} {ρ : Rho} {e a b c o : Expr} {es : List Expr} {t u : T} {d : D} {ds : List D} {pos apos p p1 p2 p3 pt : Pos} {x y : Str} {K : K3} {i : Nat} {H0 : Hp} {rest : List Stmt}
theorem Rd.unw {n : Int} (h : Rd X ρ e (.wit H0 n)) : Rd X ρ e (.int n) := fun σ H F G Q S kk => h σ H F G Q S fun v H' s r => kk v H' s (wit_int r)
theorem Ev.unw {n : Int} (h : Ev X ρ e (.sh (.wit H0 n))) : Ev X ρ e (.sh (.int n)) := h.rd.unw.evI
theorem Rd.unf {t : List (List Int)} (h : Rd X ρ e (.frT H0 t)) : Rd X ρ e (dT t) := fun σ H F G Q S kk => h σ H F G Q S fun v H' s r => kk v H' s (frT_rp r)
theorem Ev.unf {t : List (List Int)} (h : Ev X ρ e (.sh (.frT H0 t))) : Ev X ρ e (.sh (dT t)) := fun σ H F G Q S kk => h σ H F G Q S fun v H' E r => kk v H' E ⟨r.sm, r.fr, r.nd, by
  have := r.rt
  cases this with
  | sh z => exact .sh (frT_rp z)⟩
/-- behind no heap all is new -/
theorem Ev.wit0 {n : Int} (h : Ev X ρ e (.sh (.int n))) : Ev X ρ e (.sh (.wit (fun _ => none) n)) := fun σ H F G Q S kk => h σ H F G Q S fun v H' E r => kk v H' E ⟨r.sm, r.fr, r.nd, by
  have := r.rt
  cases this with
  | sh z =>
    cases z
    exact .sh (.wit fun b o q => nomatch q)⟩
/-- an own table, shared as a new one -/
theorem Ev.fzF {t : List (List Int)} {n : Int} (w : Nat) (h : Ev X ρ e (tT t)) (hw : ρ[w]? = some (some (.sh (.wit H0 n))) := by rfl) : Ev X ρ e (.sh (.frT H0 t)) := fun σ H F G Q S kk => h σ H F G Q S fun v H' E r => by
  obtain ⟨u, F1, F2, F3, e1, ru, e2, _⟩ := S.ro.get hw
  have dm : Dom H0 (del (F ++ G) H) := by
    cases ru with
    | sh z => exact wit_dom z
  have ap : ∀ b ∈ E, b ∉ F ++ G := apart S.fs r.fr
  refine kk v H' [] ⟨r.sm, (fun a z => nomatch z), List.nodup_nil, .sh (.frT (dm.sm (del_sm r.sm)) (r.rt.tabAt.sm fun b o q => ?_))⟩
  obtain ⟨q1, q2⟩ := only_in q
  unfold hid
  have n0 : H0 b = none := by
    cases z : H0 b with
    | none => rfl
    | some o' =>
      obtain ⟨o2, z2⟩ := dm b o' z
      have := (del_some z2).2
      rw [r.fr b q1] at this
      cases this
  rw [n0, if_neg (fun z => nomatch z)]
  exact (del_out (ap b q1)).trans q2
end
section
variable {X : Cx} {ρ : Rho}
theorem fzE {e : Expr} {t : T} {d : D} (h : Ev X ρ e t) (q : t.er = d) : Ev X ρ e (.sh d) := h.fz' q
theorem castE {e : Expr} {t t' : T} (h : Ev X ρ e t) (q : t = t') : Ev X ρ e t' := h.cast q
theorem Ev.lsQ {X : Cx} {ρ : Rho} {e : Expr} {ts : List T} {ds : List D} (h : Ev X ρ e (.lst ts)) (q : T.ers ts = ds) : Ls X ρ e ds := q ▸ h.ls
end
/-! ### dicts by whole numbers -/
section
variable {K : PySem.W.Frag} {H : Hp}
end
section
variable {M : Md} {N : List Str} {sc : Scope} {fc : Str → Bool} {k : Nat} {X : Cx} {ρ : Rho} {e a b c o f : Expr} {es : List Expr} {t u : T} {d dz : D} {ds : List (Key × D)} {pos apos p p1 p2 p3 pt : Pos} {x y : Str} {K : K3} {i : Nat} {tg : Expr}
end
/-! ### defs as data -/
section
variable {M : Md} {N : List Str} {sc : Scope} {fc : Str → Bool} {k : Nat} {X : Cx} {ρ : Rho} {x : Str} {p pos apos : Pos} {e o : Expr} {es : List Expr} {t : T} {ds : List D} {ts : List T}
theorem Ev.fn {f : Addr} (hX : XF M N sc fc k X) (hm : M.mg x = some (.ref f)) (hg : glB sc x = true := by decide +kernel) (hd : (x == ("__debug__" : Str)) = false := by decide) : Ev X ρ (.Name x pos) (.sh (.at f)) := by
  obtain ⟨h1, h2⟩ := hX.gl hg
  exact Ev.glob (v := .ref f) h1 (by rw [hX.m]; exact hm) rfl trivial (fun H => .at f) hd
/-- name(..), where the slot holds a def -/
theorem pe_callLG {C : CXT} {i : Nat} {f : Addr} {fd : FuncData} {ps : List Str} {sp : Sp} {E : XK} {t : TA} (F : FnG X.prog X.w X.K X.mg X.base C k f fd ps sp) (gd : X.A.guards = some []) (hr : Room k X.A) (hN : X.N[i]? = some x) (hv : Vis X.env.scope x) (hk : PySem.W.keepIn X.K (.ref f) = true) (hb : Binds X.K fd ps []) (hx : Passes C X E) (ha : PA X (e :: es) t)
    (hdb : (x == ("__debug__" : Str)) = false) (hcd : (x == ("__classdict__" : Str)) = false)
    (he : starEach (e :: es) X.env = (false, eval e X.env) :: starEach es X.env) (hpl : (backTo pos (starEach es X.env)).any (·.1) = false) : PE X (.Call (.Name x p) (e :: es) [] pos) (fun σ H Q => σ[i]? = some (some (.ref f)) ∧ t σ H fun vs H1 => sp vs H1 Q E) := by
  refine ⟨fun pins s σ H Q I h => ?_⟩
  obtain ⟨hs, ht⟩ := h
  refine wpAny_Call_Name_kw (thn ((pe_var (pos := p) hN hv hdb hcd).run pins s σ H (fun v H1 => v = .ref f ∧ H1 = H) I ⟨.ref f, hs, rfl, rfl⟩) fun u s1 ⟨v, H1, I1, r1, q1⟩ => ?_)
  obtain ⟨rfl, rfl⟩ := q1
  cases r1
  exact PySem.W.callWith_K (h₀ := X.base) I.ok.mod.kin hk (thn (ha.run pos pins s1 σ _ _ I1 ht) fun us s2 ⟨vs, H2, I2, r, q⟩ => ⟨I2.kIn, F.run gd hr hb hx I2 r q⟩) he hpl
end
/-! ### list.reverse -/
section
variable {X : Cx} {ρ : Rho} {o : Expr} {i : Nat} {π : List Sp1} {ts : List T} {t : T} {apos p pos : Pos} {K : K3}
end
/-! ### what is looked at as data, own all the same behind -/
section
variable {M : Md} {N : List Str} {sc : Scope} {fc : Str → Bool} {k : Nat} {X : Cx} {ρ : Rho} {x y : Str} {p p2 pos apos : Pos} {e iter tg elt : Expr} {t t0 : T} {d d0 : D} {ds : List D} {ts : List T} {scope : Scope} {K : K3}
end
/-! ### contracts at a deeper level -/
theorem FnG.mono {P : Program} {w : World} {K : PySem.W.Frag} {mg : Str → Option Value} {base : Heap} {C : CXT} {j k : Nat} {f : Addr} {fd : FuncData} {ps : List Str} {sp : Sp} (F : FnG P w K mg base C j f fd ps sp) (h : j ≤ k) : FnG P w K mg base C k f fd ps sp := ⟨F.n, fun gd hr e0 hb r q => F.go gd (hr.mono h) e0 hb r q⟩
/-! ### defs that raise -/
theorem ps_nox {X : Cx} {st : Stmt} {t : TS} (h : PS X.nox st t) : PS X st t := ⟨fun pins s σ H D I hw =>
  wpAny_mono (h.run pins s σ H D (I.wish _) hw) (fun _ _ q => q.unwish) fun _ _ z => False.elim z⟩
theorem pa_nox {X : Cx} {es : List Expr} {t : TA} (h : PA X.nox es t) : PA X es t := ⟨fun pos pins s σ H Q I hw =>
  wpAny_mono (h.run pos pins s σ H Q (I.wish _) hw) (fun _ _ ⟨v, H', I', r, q⟩ => ⟨v, H', I'.unwish, r, q⟩) fun _ _ z => False.elim z⟩
/-- for which data an error of which class comes -/
noncomputable def spX (K : PySem.W.Frag) (g : List D → Addr → Prop) : Sp := fun vs H _ E => ∃ (ds : List D) (C : Addr), Rps K H vs ds ∧ g ds C ∧ ∀ H', Same H H' → E (.ref C) none H'
noncomputable def DefXA (M : Md) (k : Nat) (f : Addr) (g : List D → Addr → Prop) : Prop := ∃ (fd : FuncData) (ps : List Str), FnG M.P M.w M.K M.mg M.base (CX M.P M.w) k f fd ps (spX M.K g) ∧ PySem.W.keepIn M.K (.ref f) = true ∧ Binds M.K fd ps []
noncomputable def DefX (M : Md) (k : Nat) (x : Str) (g : List D → Addr → Prop) : Prop := ∃ f : Addr, M.mg x = some (.ref f) ∧ DefXA M k f g
theorem DefXA.mono {M : Md} {j k : Nat} {f : Addr} {g : List D → Addr → Prop} (h : DefXA M j f g) (hj : j ≤ k) : DefXA M k f g := by
  obtain ⟨fd, ps, F, hk, hb⟩ := h
  exact ⟨fd, ps, F.mono hj, hk, hb⟩
/-- the context of a def that may raise -/
structure XX (M : Md) (N : List Str) (sc : Scope) (fc : Str → Bool) (k : Nat) (X : Cx) (E : XK) : Prop where
  x : XF M N sc fc k X.nox
  tk : Takes X (fun cls d _ H => E cls d H)
  hp : PassesOwn (model X.prog X.w) X.A X.env X.xe
section
variable {M : Md} {N : List Str} {sc : Scope} {fc : Str → Bool} {k : Nat} {X : Cx} {ρ : Rho} {x y : Str} {p p2 pos apos : Pos} {e o a : Expr} {es : List Expr} {t : T} {ds : List D} {ts : List T} {E : XK} {C : Addr} {st : Stmt} {rest : List Stmt}
noncomputable def Ex (X : Cx) (E : XK) (ρ : Rho) (e : Expr) (C : Addr) : Prop := ∀ (σ : L2.St) (H : Hp) (F G : List Addr) (Q : VK), S3 X.K G σ H ρ F → (∀ H', Same H H' → E (.ref C) none H') → best X e σ H Q
noncomputable def Sx (X : Cx) (E : XK) (ρ : Rho) (st : Stmt) (C : Addr) : Prop := ∀ (σ : L2.St) (H : Hp) (F G : List Addr) (D : Ends), S3 X.K G σ H ρ F → (∀ H' F', Stp G F F' H H' → E (.ref C) none H') → bestS X st D σ H
noncomputable def Sxs (X : Cx) (E : XK) (ρ : Rho) (st : List Stmt) (C : Addr) : Prop := ∀ (σ : L2.St) (H : Hp) (F G : List Addr) (D : Ends), S3 X.K G σ H ρ F → (∀ H' F', Stp G F F' H H' → E (.ref C) none H') → bestSs X st D σ H
theorem Sxs.here (h : Sx X E ρ st C) : Sxs X E ρ (st :: rest) C := fun σ H F G D S w => bestSs.of (pss_cons ps_best pss_best) (h σ H F G _ S w)
theorem Sxs.skip {P : Rho → Prop} (h : Sm X.nox ρ st { nx := P, rt := fun _ => False }) (h2 : ∀ ρ', P ρ' → Sxs X E ρ' rest C) : Sxs X E ρ (st :: rest) C := fun σ H F G D S w =>
  bestSs.of (pss_cons (ps_nox ps_best) pss_best) (h σ H F G _ S ⟨fun σ' H' ρ' F' S' s q => h2 ρ' q σ' H' F' G D S' fun H'' F'' s' => w H'' F'' (s.trans s'), fun _ _ _ _ _ _ _ _ z => z.elim, fun _ _ _ _ _ _ z => z.elim, fun _ _ _ _ _ _ z => z.elim⟩)
theorem Sx.ifr {A B : List Stmt} (hc : Te X.nox ρ e true) (ha : Sxs X E ρ A C) : Sx X E ρ (.If e A B pos) C := fun σ H F G D S w => by
  refine bestS.of (ps_if (PT.nox pt_best) pss_best pss_best) (hc σ H F G _ S fun H' s => ?_)
  rw [if_pos rfl]
  exact ha σ H' F G D (S.sm s) fun H'' F'' s' => w H'' F'' ((Stp.of s).trans s')
theorem Sx.expr (h : Ex X E ρ e C) (hs : swapsWith e none pos.line X.env = pure false := by exact sw_no rfl) : Sx X E ρ (.Expr e pos) C := fun σ H F G D S w =>
  bestS.of (ps_expr pe_best hs) (h σ H F G _ S fun H' s => w H' F (.of s))
/-- a class of errors -/
structure ErrC (M : Md) (C : Addr) : Prop where
  q : PySem.W.excIn M.K C HandSPX.veTail "ValueError.__new__" = true
  kC : PySem.W.keepIn M.K (.ref C) = true
  e : ExcC M.K C
  ty : PySem.W.typeIn M.K (.ref C) = some (.type "type")
theorem Sx.raise {m : Str} {j : Nat} {p3 : Pos} (hX : XX M N sc fc k X E) (er : ErrC M C) (hm : M.mg x = some (.ref C)) (hg : glB sc x = true := by decide +kernel) : Sx X E ρ (.Raise (some (.Call (.Name x p) [.Constant (.str m) j p2] [] p3)) none pos) C := fun σ H F G D S w => by
  obtain ⟨h1, h2⟩ := hX.x.gl hg
  have eK : X.K = M.K := hX.x.K
  have em : X.mg = M.mg := hX.x.m
  exact bestS.of (ps_raise (X := X) (show X.calm = true from hX.x.calm) hX.tk (pmk_own (X := X) PySem.F.excBase_ValueError (by rw [eK]; exact er.q) (by rw [em]; exact hm) (by rw [eK]; exact er.kC) (raises_own (by rw [eK]; exact er.e.hs) (by rw [eK]; exact er.ty)) h1 h2)) (w H F .refl)
theorem Ex.call {j : Nat} {g : List D → Addr → Prop} (hX : XX M N sc fc k X E) (hF : DefX M j x g) (ha : RdA X.nox ρ (e :: es) ds) (q : g ds C) (hj : j ≤ k := by decide) (hg : glB sc x = true := by decide +kernel)
    (he : starEach (e :: es) X.env = (false, eval e X.env) :: starEach es X.env := by rfl) (hpl : (backTo pos (starEach es X.env)).any (·.1) = false := by rfl) : Ex X E ρ (.Call (.Name x p) (e :: es) [] pos) C := fun σ H Fo G Q S w => by
  obtain ⟨f, hm, fd, ps, F, hk, hb⟩ := hF
  obtain ⟨h1, h2⟩ := hX.x.gl hg
  have tk := hX.tk
  obtain ⟨pP, pw, pK, pm, pb, _, _, _, _, _, room, _, gd⟩ := hX.x
  cases M
  simp only at pP pw pK pm pb F hm hk hb
  have pP' : X.prog = _ := pP
  have pw' : X.w = _ := pw
  have pK' : X.K = _ := pK
  have pm' : X.mg = _ := pm
  have pb' : X.base = _ := pb
  subst pP' pw' pK' pm' pb'
  refine best.of (pe_callG F gd (room.mono hj) h1 hm hk hb (passes_call (E := E) tk fun _ _ _ _ h => h) (pa_nox pa_best) h2 he hpl) (ha σ H Fo G _ S fun vs H1 s r => ?_)
  exact ⟨ds, C, r, q, fun H' s' => w H' (s.trans s')⟩
theorem defX {qual : Str} {g : List D → Addr → Prop} {ps : List Str} {f : Addr} {fd : FuncData} (F : Fun M.K x qual st f fd) (S : FnScope N ps (defScope st)) (hm : M.mg x = some (.ref f)) (hb : Binds M.K fd ps [])
    (len : ∀ ds C, g ds C → ds.length = ps.length) (body : ∀ X E ds C, XX M N (defScope st) (fun _ => true) k X E → g ds C → Sxs X E (rho0 N ds) (defBody st) C) : DefX M (k + 1) x g := by
  refine ⟨f, hm, fd, ps, FnG.of F S (fun vs H Q E h => ?_) (fun cdv A outer s H vs Q E gd hr h => ?_), F.kp, hb⟩
  · obtain ⟨ds, C, h1, h2, _⟩ := h
    rw [h1.len]
    exact len ds C h2
  · obtain ⟨ds, C, h1, h2, q⟩ := h
    refine ⟨_, pss_best, ?_⟩
    have S0 : S3 M.K [] (L2.start N vs) H (rho0 N ds) [] := by
      refine ⟨?_, List.nodup_nil, fun _ z => nomatch z⟩
      unfold L2.start rho0
      rw [h1.len]
      exact RO.start _ (by rw [List.append_nil, del_nil]; exact h1)
    refine body _ E ds C ⟨⟨rfl, rfl, rfl, rfl, rfl, rfl, rfl, S.nd, rfl, rfl, hr, rfl, gd⟩, takes_of (X := cxOf (CX M.P M.w) M.P M.w M.K M.mg M.base N qual (defScope st) f cdv A outer s H E) rfl rfl rfl rfl, passes_of (X := cxOf (CX M.P M.w) M.P M.w M.K M.mg M.base N qual (defScope st) f cdv A outer s H E) rfl⟩ h2 _ H [] [] _ S0 fun H' F' s => q H' s.same
theorem defXE {g : List D → Addr → Prop} {ps : List Str} (F : FnE M x st ps) (S : FnScope N ps (defScope st))
    (len : ∀ ds C, g ds C → ds.length = ps.length) (body : ∀ X E ds C, XX M N (defScope st) (fun _ => true) k X E → g ds C → Sxs X E (rho0 N ds) (defBody st) C) : DefX M (k + 1) x g := by
  obtain ⟨f, fd, F, hm, hb⟩ := F
  exact defX F S hm hb len body
end
open PySem PySem.Spec PyProof.Rows L2 LamX
/-! ### where tables of code objects grow -/
mutual
noncomputable def nf : D → Bool
  | .lst ds => nfs ds
  | .tup ds => nfs ds
  | .obj _ fs => nff fs
  | .dic kvs => nfk kvs
  | .wit _ _ => false
  | .frT _ _ => false
  | .dicL _ => false
  | _ => true
noncomputable def nfs : List D → Bool
  | [] => true
  | d :: ds => nf d && nfs ds
noncomputable def nff : List (Str × D) → Bool
  | [] => true
  | (_, d) :: ds => nf d && nff ds
noncomputable def nfk : List (Key × D) → Bool
  | [] => true
  | (_, d) :: ds => nf d && nfk ds
end
theorem nfs_all : ∀ {ds : List D}, (∀ d ∈ ds, nf d = true) → nfs ds = true
  | [], _ => by rfl
  | d :: ds, h => by
    show (nf d && nfs ds) = true
    rw [h d (List.mem_cons_self ..), nfs_all fun x hx => h x (List.mem_cons_of_mem _ hx)]
    rfl
theorem and2 {a b : Bool} (h : (a && b) = true) : a = true ∧ b = true := by rwa [Bool.and_eq_true] at h
section
variable {K : PySem.W.Frag} {H H' R R' : Hp}
theorem SqT.ext {a : Addr} {xs : List V} (e : ExtN H H') (h : SqT K H a xs) : SqT K H' a xs := by
  rcases h with (h | ⟨o, h⟩) | h
  · exact .inl (.inl (e _ _ h fun _ z => nomatch z))
  · exact .inl (.inr ⟨o, e _ _ h fun _ z => nomatch z⟩)
  · exact .inr h
mutual
theorem Rp.ext (e : ExtN H H') : ∀ {v : V} {d : D}, Rp K H v d → nf d = true → Rp K H' v d
  | _, _, .non, _ => .non
  | _, _, .bl b, _ => .bl b
  | _, _, .int b, _ => .int b
  | _, _, .str b, _ => .str b
  | _, _, .ty b, _ => .ty b
  | _, _, .at b, _ => .at b
  | _, _, .lst h r, q => .lst (e _ _ h fun _ z => nomatch z) (Rps.ext e r q)
  | _, _, .tup h r, q => .tup (SqT.ext e h) (Rps.ext e r q)
  | _, _, .obj h r, q => .obj (e _ _ h fun _ z => nomatch z) (Rpf.ext e r q)
  | _, _, .dic h r, q => .dic (e _ _ h fun _ z => nomatch z) (Rpk.ext e r q)
  | _, _, .wit _, q => (Bool.false_ne_true q).elim
  | _, _, .dicL _ _, q => (Bool.false_ne_true q).elim
  | _, _, .frT _ _, q => (Bool.false_ne_true q).elim
theorem Rps.ext (e : ExtN H H') : ∀ {v : List V} {d : List D}, Rps K H v d → nfs d = true → Rps K H' v d
  | _, _, .nil, _ => .nil
  | _, _, .cons h r, q => .cons (Rp.ext e h (and2 q).1) (Rps.ext e r (and2 q).2)
theorem Rpf.ext (e : ExtN H H') : ∀ {v : List (Str × V)} {d : List (Str × D)}, Rpf K H v d → nff d = true → Rpf K H' v d
  | _, _, .nil, _ => .nil
  | _, _, .cons h r, q => .cons (Rp.ext e h (and2 q).1) (Rpf.ext e r (and2 q).2)
theorem Rpk.ext (e : ExtN H H') : ∀ {v : List (Key × V)} {d : List (Key × D)}, Rpk K H v d → nfk d = true → Rpk K H' v d
  | _, _, .nil, _ => .nil
  | _, _, .cons h r, q => .cons (Rp.ext e h (and2 q).1) (Rpk.ext e r (and2 q).2)
end
/-- all slots are shared data -/
noncomputable def nfR : Rho → Bool
  | [] => true
  | none :: r => nfR r
  | some (.sh d) :: r => nf d && nfR r
  | some _ :: _ => false
theorem nfR_set {d : D} (h : nf d = true) : ∀ (ρ : Rho) (i : Nat), nfR ρ = true → nfR (ρ.set i (some (.sh d))) = true
  | [], _, _ => rfl
  | none :: r, 0, q => by
    show (nf d && nfR r) = true
    rw [h]
    exact q
  | some (.sh d') :: r, 0, q => by
    show (nf d && nfR r) = true
    rw [h]
    exact (and2 q).2
  | none :: r, i + 1, q => nfR_set h r i q
  | some (.sh d') :: r, i + 1, q => by
    show (nf d' && nfR (r.set i _)) = true
    rw [(and2 q).1]
    exact nfR_set h r i (and2 q).2
  | some (.lst _) :: _, _, q => nomatch q
  | some (.obj _ _) :: _, _, q => nomatch q
  | some (.dic _) :: _, _, q => nomatch q
  | some (.regT _) :: _, _, q => nomatch q
theorem RO.nf (k : ∀ v d, Rp K R v d → nf d = true → Rp K R' v d) : ∀ {σ : L2.St} {ρ : Rho} {F : List Addr}, RO K R H σ ρ F → nfR ρ = true → RO K R' H' σ ρ [] := fun {σ ρ F} h => by
  induction h with
  | nil => exact fun _ => .nil
  | no _ ih => exact fun q => .no (ih q)
  | @yes v t σ ρ F G r _ ih =>
    intro q
    cases t with
    | sh d =>
      obtain ⟨q1, q2⟩ := and2 q
      cases r with
      | sh r => exact RO.yes (F := []) (G := []) (.sh (k v d r q1)) (ih q2)
    | lst _ => cases q
    | obj _ _ => cases q
    | dic _ => cases q
    | regT _ => cases q
noncomputable def SN (K : PySem.W.Frag) (σ : L2.St) (H : Hp) (ρ : Rho) : Prop := RO K H H σ ρ [] ∧ nfR ρ = true
theorem SN.s3 {σ : L2.St} {ρ : Rho} (S : SN K σ H ρ) : S3 K [] σ H ρ [] := ⟨by rw [List.append_nil, del_nil]; exact S.1, List.nodup_nil, fun _ z => nomatch z⟩
theorem SN.of {σ : L2.St} {ρ : Rho} {F : List Addr} (S : S3 K [] σ H ρ F) (n : nfR ρ = true) : SN K σ H ρ := ⟨S.ro.nf (fun v d r _ => r.sm del_le) n, n⟩
theorem SN.ext {σ : L2.St} {ρ : Rho} (S : SN K σ H ρ) (e : ExtN H H') : SN K σ H' ρ := ⟨S.1.nf (fun v d r q => r.ext e q) S.2, S.2⟩
theorem RO.non {i : Nat} {x : Option V} : ∀ {σ : L2.St} {ρ : Rho} {F : List Addr}, RO K R H σ ρ F → ρ[i]? = some none → RO K R H (σ.set i x) ρ F := fun {σ ρ F} h => by
  induction h generalizing i with
  | nil => exact fun z => nomatch z
  | no r ih =>
    cases i with
    | zero => exact fun _ => .no r
    | succ i => exact fun z => .no (ih z)
  | yes r _ ih =>
    cases i with
    | zero => exact fun z => nomatch z
    | succ i => exact fun z => .yes r (ih z)
end
/-! ### statements of the defs that make lambdas -/
structure WN (X : Cx) (T : List (Addr × Str)) (K : K3) (H : Hp) (D : Ends) : Prop where
  nx : ∀ σ' H' ρ', SN X.K σ' H' ρ' → ExtN H H' → Tabs T H' → K.nx ρ' → D.nx σ' H'
  rt : ∀ v H' t, Rp X.K H' v t.er → ExtN H H' → Tabs T H' → K.rt t → D.rt v H'
theorem WN.step {X : Cx} {T : List (Addr × Str)} {K : K3} {H H1 : Hp} {D : Ends} (w : WN X T K H D) (e : ExtN H H1) : WN X T K H1 D := ⟨fun σ' H' ρ' S e2 => w.nx σ' H' ρ' S (e.trans e2), fun v H' t r e2 => w.rt v H' t r (e.trans e2)⟩
noncomputable def SsN (X : Cx) (T : List (Addr × Str)) (ρ : Rho) (st : List Stmt) (K : K3) : Prop := ∀ (σ : L2.St) (H : Hp) (D : Ends), SN X.K σ H ρ → Tabs T H → WN X T K H D → bestSs X st D σ H
noncomputable def TeN (X : Cx) (T : List (Addr × Str)) (ρ : Rho) (c : Expr) (b : Bool) : Prop := ∀ (σ : L2.St) (H : Hp) (Q : Bool → Hp → Prop), SN X.K σ H ρ → Tabs T H → (∀ H', ExtN H H' → Tabs T H' → Q b H') → bestT X c σ H Q
noncomputable def ItN (X : Cx) (ρ : Rho) (tg iter : Expr) (ds : List D) : Prop := ∃ wi : TI, PI X tg iter wi ∧ ∀ (σ : L2.St) (H : Hp) (R : It → Hp → Prop), SN X.K σ H ρ →
  (∀ J H1, Same H H1 → (∀ H2, ExtN H1 H2 → Jsp X.K J ds H2 []) → R J H1) → wi σ H R
section
variable {M : Md} {N : List Str} {sc : Scope} {fc : Str → Bool} {k : Nat} {X : Cx} {ρ : Rho} {x y : Str} {p p2 pos apos : Pos} {e o a b c tg iter : Expr} {es : List Expr} {t : T} {ds : List D} {st : Stmt} {rest A body : List Stmt} {K : K3} {T' : List (Addr × Str)}
theorem SsN.nil (h : K.nx ρ) : SsN X T' ρ [] K := fun σ H D S t w => bestSs.of pss_nil (w.nx σ H ρ S (.refl H) t h)
theorem SsN.sm (h : Sm X ρ st { nx := fun ρ' => nfR ρ' = true ∧ SsN X T' ρ' rest K, rt := K.rt }) : SsN X T' ρ (st :: rest) K := fun σ H D S t w =>
  bestSs.of (pss_cons ps_best pss_best) (h σ H [] [] _ S.s3 ⟨fun σ' H' ρ' F' S' s ⟨n, q⟩ => q σ' H' D (SN.of S' n) (t.ext s.same) (w.step (.of s.same)), fun v H' t' E r n a s q =>
    w.rt v H' t' (r.rp del_le fun a _ o q => q) (.of s.same) (t.ext s.same) q, fun _ _ _ _ _ _ z => z.elim, fun _ _ _ _ _ _ z => z.elim⟩)
theorem SsN.drop (i : Nat) (n : nfR (ρ.set i none) = true) (h : SsN X T' (ρ.set i none) rest K) : SsN X T' ρ rest K := fun σ H D S t w => by
  obtain ⟨F', S', _⟩ := S.s3.drop i
  exact h σ H D (SN.of S' n) t w
theorem TeN.not {q : Bool} (h : TeN X T' ρ c q) : TeN X T' ρ (.UnaryOp .Not c pos) (!q) := fun σ H Q S t k => bestT.of (pt_not pt_best) (h σ H _ S t fun H' e t' => k H' e t')
theorem TeN.or2 (ha : TeN X T' ρ a false) (hb : TeN X T' ρ b false) : TeN X T' ρ (.BoolOp .Or [a, b] pos) false := fun σ H Q S t k =>
  bestT.of (pw_or pt_best (pw_or1 pt_best)).pt (ha σ H _ S t fun H1 e1 t1 => by
    rw [if_neg Bool.false_ne_true]
    exact hb σ H1 Q (S.ext e1) t1 fun H2 e2 t2 => k H2 (e1.trans e2) t2)
theorem SsN.skip (hc : TeN X T' ρ c false) (h : SsN X T' ρ rest K) : SsN X T' ρ (.If c A [] pos :: rest) K := fun σ H D S t w =>
  bestSs.of (pss_cons (ps_if pt_best (pss_best (X := X) (st := A)) pss_nil) pss_best) (hc σ H _ S t fun H1 e1 t1 => by
    rw [if_neg Bool.false_ne_true]
    exact h σ H1 D (S.ext e1) t1 (w.step e1))
theorem ItN.list (h : Ev X ρ e (.sh (.lst ds))) (n : nfs ds = true) : ItN X ρ tg e ds := ⟨_, pi_list pe_best, fun σ H R S k => h σ H [] [] _ S.s3 fun v H1 E r => by
  have r' := r.rp
  cases r' with
  | @lst q vs _ e1 r1 =>
    refine ⟨q, rfl, ⟨vs, SqL.of e1⟩, k _ H1 r.sm fun H2 s3 => ?_⟩
    have hq : SqL X.K H2 q vs := SqL.of (s3 _ _ e1 fun _ z => nomatch z)
    refine ⟨fun i d hi => ?_, ⟨vs, hq, by rw [r1.len]; exact Nat.le_refl _⟩⟩
    obtain ⟨v, e2, r2⟩ := (r1.ext s3 n).get hi
    refine ⟨⟨vs, v, hq, e2⟩, fun x H' y => ?_⟩
    obtain ⟨y1, y2⟩ := y
    subst y1
    have e3 := y2 vs hq
    rw [e2] at e3
    cases e3
    exact ⟨.refl _, by rw [del_nil]; exact r2⟩⟩
theorem ItN.tup (h : Ev X ρ e (.sh (.tup ds))) (n : nfs ds = true) : ItN X ρ tg e ds := ⟨_, pi_tup pe_best, fun σ H R S k => h σ H [] [] _ S.s3 fun v H1 E r => by
  have r' := r.rp
  cases r' with
  | @tup q vs _ e1 r1 =>
    refine ⟨q, rfl, ⟨vs, e1⟩, k _ H1 r.sm fun H2 s3 => ?_⟩
    have hq : SqT X.K H2 q vs := SqT.ext s3 e1
    refine ⟨fun i d hi => ?_, ⟨vs, hq, by rw [r1.len]; exact Nat.le_refl _⟩⟩
    obtain ⟨v, e2, r2⟩ := (r1.ext s3 n).get hi
    refine ⟨⟨vs, v, hq, e2⟩, fun x H' y => ?_⟩
    obtain ⟨y1, y2⟩ := y
    subst y1
    have e3 := y2 vs hq
    rw [e2] at e3
    cases e3
    exact ⟨.refl _, by rw [del_nil]; exact r2⟩⟩
/-- for x in ..: body, where each turn forgets x -/
theorem SsN.for {α : Type} {xs : List α} {en : α → D} (hX : XF M N sc fc k X) (i : Nat) (hi : ItN X ρ (.Name x p) iter (xs.map en)) (step : ∀ a ∈ xs, SsN X T' (ρ.set i (some (.sh (en a)))) body { nx := fun ρ' => ρ' = ρ, rt := K.rt }) (nx : ∀ a ∈ xs, nf (en a) = true) (h : SsN X T' ρ rest K) (hf : fre ρ i = true := by rfl)
    (hN : N[i]? = some x := by rfl) (hl : locB sc fc x = true := by decide +kernel) (hs : ∀ x, foldedSetIterable iter X.env x = pure x := by intro _; rfl) : SsN X T' ρ (.For (.Name x p) iter body [] pos :: rest) K := fun σ H D S t w => by
  obtain ⟨wi, pi, hwi⟩ := hi
  refine bestSs.of (pss_cons (ps_for hX.hp hX.calm pi ((hX.pg1 i hN hl : PG X (.Name x p) ((Tg.one i).g X.K))) pss_best hs) pss_best) (hwi σ H _ S fun J H1 s1 hJ => ?_)
  have S1 := S.ext (.of s1)
  have w1 := w.step (.of s1)
  have t1 := t.ext s1
  let W : Nat → Nat → L2.St → Hp → Prop := fun i m σ' H' => m = xs.length - i ∧ i ≤ xs.length ∧ SN X.K σ' H' ρ ∧ ExtN H1 H' ∧ Tabs T' H'
  refine ⟨W, ⟨_, rfl, Nat.zero_le _, S1, .refl _, t1⟩, ?_⟩
  rintro j m σ2 H2 ⟨rfl, hj, S2, st, t2⟩
  have jj := hJ H2 st
  by_cases hlt : j < xs.length
  · obtain ⟨d, hd'⟩ : ∃ a, xs[j]? = some a := ⟨_, List.getElem?_eq_getElem hlt⟩
    have hd2 : (xs.map en)[j]? = some (en d) := by rw [List.getElem?_map, hd']; rfl
    have hm := List.mem_of_getElem? hd'
    obtain ⟨jg, jy⟩ := jj.go j (en d) hd2
    refine .inr ⟨jg, W (j + 1) (xs.length - (j + 1)), fun σ' H' q => ⟨_, by omega, q⟩, fun v H3 y => ?_⟩
    obtain ⟨s3, rx⟩ := jy v H3 y
    have S3' := S2.ext (.of s3)
    refine (Tg.one i).run [] S3'.s3 (d := en d) (by rw [List.append_nil, del_nil]; rw [del_nil] at rx; exact rx) rfl (fun l hl => by rw [List.mem_singleton.mp hl]; exact hf) fun σ4 S4 _ => ?_
    have n4 : nfR (ρ.set i (some (.sh (en d)))) = true := nfR_set (nx d hm) ρ i S2.2
    have w3 := w1.step (st.trans (.of s3))
    exact step d hm σ4 H3 _ (SN.of S4 n4) (t2.ext s3) ⟨fun σ' H' ρ' S' e' t' q => ⟨rfl, by omega, q ▸ S', (st.trans (.of s3)).trans e', t'⟩, w3.rt⟩
  · have e : j = xs.length := by omega
    subst e
    have := jj.stop
    rw [List.length_map] at this
    exact .inl ⟨this, h σ2 H2 D S2 t2 (w1.step st)⟩
end
open PySem PySem.Spec PyProof.Rows L2 LamX
/-! ### a lambda handed to a def, where nothing guards -/
section
variable {X : Cx} {pins : List (Addr × Obj)} {σ : L2.St} {H HZ : Hp} {s : Shared}
/-- a(), in the def that got the lambda -/
theorem act_g {Ng : List Str} {qg : Str} {sg : Scope} {g f c' : Addr} {cdg pm ctv : Value} {params : Arguments} {body : Expr} {scope : Scope} {k i : Nat} {a : Str} {pn : List (Addr × Obj)} {xe : Value → Shared → Prop} {W : WX} {E : XK} {tb : TE} {p1 p2 : Pos}
    (I : Inv X pins σ H s) (L : LamS X.env.scope scope) (hf : s.heap.get? f = some (PySem.W.kla_obj "<lambda>" (X.env.qual ++ "<lambda>") params body scope (cloFrom X.env.cells scope.names []) pm c' ctv)) (hfn : H f = none) (hfr : f ∉ frs X.stack)
    (hbind : bindArgs (PySem.W.kla_fn "<lambda>" (X.env.qual ++ "<lambda>") params body scope (cloFrom X.env.cells scope.names []) pm (.ref c') ctv) ⟨[], []⟩ = pure [])
    (tk : Takes ((cxOf C8.CX0 X.prog X.w X.K X.mg X.base Ng qg sg g cdg X.A X.stack s H C8.E0).tr pn xe) W) (hW : ∀ cls d σ' H', E cls d H' → W cls d σ' H') (hr : Room (k + 1) (X.A.deeper (envOfC qg sg s.heap.objs.size g cdg)))
    (hbody : ∀ (z : Shared) (HZ : Hp), Room k ((X.A.deeper (envOfC qg sg s.heap.objs.size g cdg)).deeper (lamEnv X scope z.heap.objs.size f c')) → PE (lamCx X (X.A.deeper (envOfC qg sg s.heap.objs.size g cdg)) (envOfC qg sg s.heap.objs.size g cdg :: X.stack) z HZ E scope f c') body tb)
    (hN : Ng[i]? = some a) (hv : Vis sg a) (hd : (a == ("__debug__" : Str)) = false := by decide) (hcd : (a == ("__classdict__" : Str)) = false := by decide) :
    PE ((cxOf C8.CX0 X.prog X.w X.K X.mg X.base Ng qg sg g cdg X.A X.stack s H C8.E0).tr pn xe) (.Call (.Name a p1) [] [] p2)
      (fun σZ HZ Q => σZ[i]? = some (some (.ref f)) ∧ HZ c' = some (CodeO c' (X.env.qual ++ "<lambda>")) ∧ tb σ HZ Q) := by
  refine ⟨fun pinsZ sZ σZ HZ Q IZ ⟨hs, hc, ht⟩ => wpAny_Call_Name_kw (thn ((pe_var (pos := p1) (i := i) hN hv hd hcd).run pinsZ sZ σZ HZ (fun v H1 => v = .ref f ∧ H1 = HZ) IZ ⟨.ref f, hs, rfl, rfl⟩) fun u s1 ⟨v, H1, I1, r1, q1, q2⟩ => ?_)⟩
  subst q1
  rw [q2] at I1
  obtain rfl : u = Value.ref f := r1
  have of1 := I1.base.keep f _ hf hfn hfr (fun z => nomatch (show f ∈ ([] : List Addr) from z))
  refine PySem.W.callWith_F0 ⟨_, _, _, _, of1⟩ (wpAny_call (codeAny_mono (?_ : codeAny (model X.prog X.w) (X.A.deeper (envOfC qg sg s.heap.objs.size g cdg)) (.call (.ref f) ⟨[], []⟩) (CR (L2.CX X.prog X.w) (envOfC qg sg s.heap.objs.size g cdg :: X.stack) X.prog X.w HZ s1 Q E) s1) fun r s' hq => ?_))
  · obtain ⟨⟨oc, vs, t, hoc, hdc, hvc⟩, _, _⟩ := I1.hok c' _ hc
    refine PySem.W.kla_callFunE hr.depth of1 rfl L.co L.gen rfl ⟨c', oc, vs, t, rfl, hoc, hdc, hvc⟩ ?_
    rw [hbind]
    refine wpAny_pure (wpAny_newFunctionEnv (fun y hy => (L.own y hy).2) (fun y hy => absurd hy (by simp)) (fun h₁ hns hsb => ⟨I1.nolimit.fresh _ hsb, ?_⟩) L.kind)
    show codeAny _ _ (.expr body (lamEnv X scope s1.heap.objs.size f c')) _ _
    have J := lam_start2 (E := E) (f := f) (c' := c') (tk := s1.toks + ([] : List (Str × Value)).length) I L I1.env0 hr.hd I1.base hns fun b o e => hsb.extBut b o (Nat.ne_of_lt (Heap.lt_size e)) (Heap.get?_push_of_some _ e)
    exact PySem.W.kla_codeExpr (wpAny_mono ((hbody s1 HZ (hr.deeper _)).run [] _ _ HZ Q J ht) (fun v s' ⟨w', H', J', rv, q⟩ => ⟨w', H', J'.os, J'.bare, J'.base, J'.hok, rv, q⟩) fun e s' hq => hq)
  · match r, hq with
    | .error e, hq => exact passes_call tk hW pinsZ σZ HZ s1 e s' I1 hq
    | .ok (.ret u), hq => exact I1.after hq
    | .ok .next, hq => exact hq.elim
    | .ok .brk, hq => exact hq.elim
    | .ok .cont, hq => exact hq.elim
end
/-- the lambda's own context -/
theorem XX.lam {M : Md} {N : List Str} {sc scope : Scope} {fc : Str → Bool} {k j : Nat} {X : Cx} {E : XK} {A : Around} {outer : List Env} {z : Shared} {H : Hp} {f c' : Addr} (hX : XF M N sc fc k X) (gd : A.guards = some []) (hr : Room j (A.deeper (lamEnv X scope z.heap.objs.size f c'))) :
    XX M N scope (fun _ => false) j (lamCx X A outer z H E scope f c') E :=
  ⟨⟨hX.p, hX.w, hX.K, hX.m, hX.b, hX.n, rfl, hX.nd, rfl, rfl, hr, rfl, gd⟩, takes_of (X := lamCx X A outer z H E scope f c') rfl rfl rfl rfl, passes_of (X := lamCx X A outer z H E scope f c') rfl⟩
section
variable {M : Md} {N : List Str} {sc : Scope} {fc : Str → Bool} {k : Nat} {X : Cx} {ρ : Rho} {σ : L2.St} {H : Hp} {Q : VK} {C : Addr}
/-- what a() does in the def that got the lambda: it raises -/
noncomputable def Act (X : Cx) (ρ : Rho) (σ : L2.St) (Z : Cx) (a q : Str) (f c' C : Addr) : Prop := ∀ (W : WX) (pn : List (Addr × Obj)) (xe : Value → Shared → Prop) (E : XK) (p1 p2 : Pos), Takes (Z.tr pn xe) W → (∀ cls d σ' H', E cls d H' → W cls d σ' H') →
  PE (Z.tr pn xe) (.Call (.Name a p1) [] [] p2) (fun σZ HZ _ => σZ[0]? = some (some (.ref f)) ∧ HZ c' = some (CodeO c' q) ∧ SN X.K σ HZ ρ ∧ ∀ H'', Same HZ H'' → E (.ref C) none H'')
theorem lam_call {T : List (Addr × Str)} {x a : Str} {g c P : Addr} {pg : Arguments} {bg : List Stmt} {sg : Scope} {dV kV doc pm cdv ct oc : Value} {an od : Option Addr} {osl : Array (Option Value)} {Ng : List Str} {params : Arguments} {body : Expr} {scope : Scope} {p lpos pos : Pos}
    (hX : XF M N sc fc (k + 2) X) (hg : Gl X x) (hm : X.mg x = some (.ref g)) (hk : PySem.W.keepIn X.K (.ref g) = true)
    (lk : X.K.lookup g = some ⟨oc, od, .func (PySem.W.fnOf x x pg bg sg dV kV doc pm an cdv ct), osl⟩) (hcg : PySem.W.codeIn X.K cdv x = true) (hb : L2.Binds X.K (PySem.W.fnOf x x pg bg sg dV kV doc pm an cdv ct) [a] []) (Sg : FnScope Ng [a] sg) (hNg : Ng[0]? = some a) (hva : Vis sg a)
    (TB : TabB X.base X.mg c P) (hcode : X.env.code = .ref c) (hmT : (P, X.env.qual ++ "<lambda>") ∈ T) (hu : ∀ p ∈ T, p.1 = P → p.2 = X.env.qual ++ "<lambda>") (L : LamS X.env.scope scope) (hdef : defaultsOf params X.env = ([], []))
    (hbind : ∀ (q : Str) (cl : List (Str × Addr)) (pm cv ctv : Value), bindArgs (PySem.W.kla_fn "<lambda>" q params body scope cl pm cv ctv) ⟨[], []⟩ = pure [])
    (hbody : ∀ Y E, XX M N scope (fun _ => false) k Y E → Ex Y E ρ body C)
    (hK : ∀ (f c' : Addr) (z : Shared) (H1 : Hp), ExtN H H1 → Tabs T H1 → H1 c' = some (CodeO c' (X.env.qual ++ "<lambda>")) → XF M Ng sg (fun _ => true) (k + 1) (cxOf C8.CX0 X.prog X.w X.K X.mg X.base Ng x sg g cdv X.A X.stack z H1 C8.E0).nox →
      Act X ρ σ (cxOf C8.CX0 X.prog X.w X.K X.mg X.base Ng x sg g cdv X.A X.stack z H1 C8.E0) a (X.env.qual ++ "<lambda>") f c' C → bestSs (cxOf C8.CX0 X.prog X.w X.K X.mg X.base Ng x sg g cdv X.A X.stack z H1 C8.E0).nox bg { nx := fun _ H' => Q .non H', rt := Q } (L2.start Ng [.ref f]) H1)
    (hT : Tabs T H) (hdb : (x == ("__debug__" : Str)) = false := by decide) (hd : (a == ("__debug__" : Str)) = false := by decide) (hcd : (a == ("__classdict__" : Str)) = false := by decide) :
    best X (.Call (.Name x p) [.Lambda params body scope lpos] [] pos) σ H Q := by
  refine ⟨fun pins s I => wpAny_Call_Name_kw (ld_glob I hg hm (PySem.W.callWith_K (h₀ := X.base) I.ok.mod.kin hk ?_ (by rfl) (by rfl)) hdb)⟩
  show wpAny _ _ (spliced ((false, eval (.Lambda params body scope lpos) X.env) :: backTo pos (starEach [] X.env))) _ _ s
  refine Calls.spliced_cons (lam_make2 I TB hcode hmT hu hT hdef (L.has I.ok) fun f c' pm' ctv H1 z I1 eN T1 hf hfn hfr hco => Calls.spliced_nil ⟨I1.kIn, wpAny_call (codeAny_mono
    (run_ofS (CX := C8.CX0) (Q := Q) (E := C8.E0) (N := Ng) (ps := [a]) (us := [.ref f]) (vs := [.ref f]) lk hcg Sg hX.room I1.env0 (hb z [.ref f] I1.kIn rfl) (.cons rfl .nil) rfl fun hr' => ?_) fun r s2 hq => ?_)⟩)
  · refine ⟨_, pss_best.nox, hK f c' z H1 eN T1 hco ⟨hX.p, hX.w, hX.K, hX.m, hX.b, rfl, rfl, Sg.nd, rfl, rfl, hr', rfl, hX.gd⟩ fun W pn xe E p1 p2 tk hW => ?_⟩
    exact act_g (i := 0) (tb := fun σ H' _ => SN X.K σ H' ρ ∧ ∀ H'', Same H' H'' → E (.ref C) none H'') I1 L hf hfn hfr (hbind _ _ _ _ _) tk hW hr' (fun z2 HZ hr2 => ⟨fun pins2 s2 σ2 H2 Q2 I2 ⟨h1, h2⟩ =>
      (hbody _ E (XX.lam (A := X.A.deeper (envOfC x sg z.heap.objs.size g cdv)) hX hX.gd hr2) σ2 H2 [] [] Q2 h1.s3 h2).run pins2 s2 I2⟩) hNg hva hd hcd
  · match r, hq with
    | .error e, hq => exact (show False from hq).elim
    | .ok (.ret u), hq => exact I1.after hq
    | .ok .next, hq => exact hq.elim
    | .ok .brk, hq => exact hq.elim
    | .ok .cont, hq => exact hq.elim
end
open PySem PySem.Spec PyProof.Rows L2 LamX
/-! ### the law's own call, where its defs make lambdas -/
section
variable {P : Program} {w : World} {K : PySem.W.Frag} {mg mb : Str → Option Value} {k : Nat} {fa a : Addr} {fd : FuncData} {x : Str} {sp : Sp} {s : Shared} {vs : List Value} {ns : List Int} {cs : List (Addr × Addr)}
/-- the tables, as the head leaves them -/
structure TabH (K : PySem.W.Frag) (h : Heap) (cs : List (Addr × Addr)) : Prop where
  em : ∀ p ∈ cs, h.get? p.2 = some (PySem.W.tabObj #[])
  no : ∀ p ∈ cs, K.lookup p.2 = none
  hd : ∀ p ∈ cs, PySem.W.CodeHd h p.1 p.2
theorem law_coreT (KX : K.In s.heap) (G : s.heap.Ns mainGlobals mg) (B : s.heap.Ns builtinsNs mb) (B2 : ∀ y : Str, y ≠ "__name__" → mb y = bootBuiltins y) (L : s.heap.NoLimit) (g0 : s.gens = #[]) (TH : TabH K s.heap cs)
    (bm : ∃ (bm : Addr) (ob : Obj), mg "__builtins__" = some (.ref bm) ∧ bm ≠ builtinsNs ∧ s.heap.get? bm = some ob ∧ ob.cls = .type "module" ∧ ob.dict = some builtinsNs ∧ ob.data = .plain)
    (ha : s.heap.get? a = some { cls := .type "list", data := .seq vs.toArray }) (hr : Room k callerA)
    (F : ∀ base : Heap, K.In base → base.Ns mainGlobals mg → (∀ p ∈ cs, TabB base mg p.1 p.2) → FnG P w K mg base CX0 k fa fd [x] sp) (hb : ∀ (z : Shared) (u : Value), BindsTo z fd ⟨[u], []⟩ [(x, u)]) {H : Hp}
    (hA : ∀ b u, H b = some u → (b = a ∧ K.lookup a = none ∧ u = .frz { cls := .type "list", data := .seq vs.toArray } (.lst (ns.map V.int))) ∨ (b ∈ cs.map (·.2) ∧ u = .tbl #[])) (hC : ∀ p ∈ cs, H p.2 = some (.tbl #[]))
    (hok : HOk P w H s.heap) (h : sp [.ref a] H (fun v _ => v = .bl true) E0) : codeAny (model P w) callerA (.call (.ref fa) ⟨[.ref a], []⟩) (fun r z => r = .ok (.ret (.bool true)) ∧ OldK s.heap z.heap ∧ z.os = s.os ∧ AllBare z.gens) s := by
  have tb : ∀ {b : Addr}, b ∈ cs.map (·.2) → s.heap.get? b = some (PySem.W.tabObj #[]) ∧ K.lookup b = none := fun hb => by
    obtain ⟨p, hp, rfl⟩ := List.mem_map.mp hb
    exact ⟨TH.em p hp, TH.no p hp⟩
  have free : ∀ {b : Addr} {o : Obj}, s.heap.get? b = some o → ((∀ its n, o.data ≠ .seq its n) ∧ o ≠ PySem.W.tabObj #[]) ∨ K.lookup b = some o → H b = none := fun {b o} e d => by
    cases q : H b with
    | none => rfl
    | some u =>
      rcases hA b u q with ⟨e1, e2, _⟩ | ⟨e1, _⟩
      · rw [e1] at e d
        rcases d with d | d
        · rw [ha] at e
          cases e
          exact absurd rfl (d.1 _ _)
        · rw [e2] at d
          cases d
      · obtain ⟨t1, t2⟩ := tb e1
        rcases d with d | d
        · rw [t1] at e
          cases e
          exact absurd rfl d.2
        · rw [t2] at d
          cases d
  have ns' : ∀ {b : Addr} {m : Str → Option Value}, s.heap.Ns b m → (hidT s.heap H).Ns b m := fun {b m} ⟨o, es, ep, e, d, r⟩ => ⟨o, es, ep, hidT_get e (free e (.inl ⟨fun _ _ z => (by rw [d] at z; cases z), fun z => (by rw [z] at d; cases d)⟩)), d, r⟩
  have K' : K.In (hidT s.heap H) := fun b o e => hidT_get (KX b o e) (free (KX b o e) (.inr e))
  have hNs := G
  obtain ⟨mc, c1, c2⟩ := L
  have M : Mod K mg (hidT s.heap H) := ⟨K', ns' G, ⟨mb, ns' B, B2⟩, mc, ns' c1, c2⟩
  have nil : ∀ {b : Addr}, b ∉ ([] : List Addr) := fun z => nomatch z
  have TBs : ∀ p ∈ cs, TabB (hidT s.heap H) mg p.1 p.2 := fun p hp => by
    have eP := TH.em p hp
    refine ⟨?_, ?_, fun z => ?_⟩
    · obtain ⟨o, us, file, tf, fl, tg, inF, tx, tt, e1, r1, r2, r⟩ := TH.hd p hp
      exact ⟨o, us, file, tf, fl, tg, inF, tx, tt, hidT_get e1 (free e1 (.inl ⟨fun _ _ z => (by rw [r2] at z; cases z), fun z => (by rw [z] at r1; cases r1)⟩)), r1, r2, r⟩
    · obtain ⟨b, ob, b1, b2, b3, b4, b5, b6⟩ := bm
      refine ⟨b, ob, b1, b2, fun q => ?_, fun q => ?_, hidT_get b3 (free b3 (.inl ⟨fun _ _ z => (by rw [b6] at z; cases z), fun z => (by rw [z] at b6; cases b6)⟩)), b4, b5, b6⟩
      · obtain ⟨o, es, ep, e, d, _⟩ := hNs
        rw [q, e] at b3
        cases b3
        rw [d] at b6
        cases b6
      · rw [q, eP] at b3
        cases b3
        cases b6
    · obtain ⟨o, es, ep, e, d, _⟩ := hNs
      rw [z, eP] at e
      cases e
      cases d
  have e0 : Env0 P w K mg (hidT s.heap H) callerA [] s H := ⟨rfl, M, fun b o e => of_hidT e, Nat.le_of_eq (hidT_size _ _), trivial, fun b z => absurd z nil, hok, .of_eq g0⟩
  refine codeAny_mono (FnG.go (F _ K' (ns' G) TBs) (us := [.ref a]) rfl hr e0 (hb s (.ref a)) (.cons (show RelV (V.ref a) (.ref a) from rfl) .nil) h) fun r z q => ?_
  match r, q with
  | .error e, q => exact q.elim
  | .ok .next, q => exact q.elim
  | .ok .brk, q => exact q.elim
  | .ok .cont, q => exact q.elim
  | .ok (.ret u), q =>
    obtain ⟨v, H2, os, bare, un, ok2, rv, ev⟩ := q
    have ev : v = .bl true := ev
    subst ev
    have eu : u = .bool true := rv
    subst eu
    have key : ∀ b o, b ∉ cs.map (·.2) → s.heap.get? b = some o → z.heap.get? b = some o := fun b o nb e => by
      cases y : H b with
      | none => exact un.keep b o e y nil nil
      | some t =>
        rcases hA b t y with ⟨rfl, _, rfl⟩ | ⟨e1, _⟩
        · have e2 := (ok2 b _ (un.frzs b _ _ y)).1
          rw [ha] at e
          cases e
          exact e2
        · exact absurd e1 nb
    have grow : ∀ p ∈ cs, ∃ more : Array Value, z.heap.get? p.2 = some (PySem.W.tabObj more) := fun p hp => by
      obtain ⟨more, y⟩ := un.tbls p.2 #[] (hC p hp)
      exact ⟨_, ok2 p.2 _ y⟩
    refine ⟨rfl, ⟨fun b o e => ?_, fun b o e => ?_⟩, os, bare⟩
    · by_cases hb : b ∈ cs.map (·.2)
      · obtain ⟨p, hp, rfl⟩ := List.mem_map.mp hb
        obtain ⟨more, hm⟩ := grow p hp
        rw [TH.em p hp] at e
        cases e
        exact .inr (.inl ⟨((TH.hd p hp).tab (TH.em p hp)).isCodeTable, rfl, #[], more, rfl, by rw [Array.empty_append]; exact hm⟩)
      · exact .inl (key b o hb e)
    · by_cases hb : b ∈ cs.map (·.2)
      · obtain ⟨p, hp, rfl⟩ := List.mem_map.mp hb
        obtain ⟨more, hm⟩ := grow p hp
        exact ⟨_, hm⟩
      · exact ⟨o, key b o hb e⟩
theorem law_goT (KX : K.In s.heap) (G : s.heap.Ns mainGlobals mg) (B : s.heap.Ns builtinsNs mb) (B2 : ∀ y : Str, y ≠ "__name__" → mb y = bootBuiltins y) (L : s.heap.NoLimit) (g0 : s.gens = #[]) (TH : TabH K s.heap cs)
    (bm : ∃ (bm : Addr) (ob : Obj), mg "__builtins__" = some (.ref bm) ∧ bm ≠ builtinsNs ∧ s.heap.get? bm = some ob ∧ ob.cls = .type "module" ∧ ob.dict = some builtinsNs ∧ ob.data = .plain)
    (ha : s.heap.get? a = some { cls := .type "list", data := .seq vs.toArray }) (hi : IntsAre vs ns) (hl : ns.length ≤ sizeLine) (hr : Room k callerA)
    (F : ∀ base : Heap, K.In base → base.Ns mainGlobals mg → (∀ p ∈ cs, TabB base mg p.1 p.2) → FnG P w K mg base CX0 k fa fd [x] sp) (hb : ∀ (z : Shared) (u : Value), BindsTo z fd ⟨[u], []⟩ [(x, u)]) (hs : ∀ H : Hp, (∀ p ∈ cs, H p.2 = some (.tbl #[])) → SqL K H a (ns.map V.int) → sp [.ref a] H (fun v _ => v = .bl true) E0) :
    codeAny (model P w) callerA (.call (.ref fa) ⟨[.ref a], []⟩) (fun r z => r = .ok (.ret (.bool true)) ∧ OldK s.heap z.heap ∧ z.os = s.os ∧ AllBare z.gens) s := by
  have rv := vals_ints hi
  have nA : a ∉ cs.map (·.2) := fun z => by
    obtain ⟨p, hp, e⟩ := List.mem_map.mp z
    have q := TH.em p hp
    rw [e, ha] at q
    cases q
  have iT : ∀ p ∈ cs, p.2 ∈ cs.map (·.2) := fun p hp => List.mem_map.mpr ⟨p, hp, rfl⟩
  cases hk : K.lookup a with
  | some o =>
    have e := KX a o hk
    rw [ha] at e
    cases e
    have hC : ∀ p ∈ cs, (fun b => if b ∈ cs.map (·.2) then some (HO.tbl #[]) else none) p.2 = some (HO.tbl #[]) := fun p hp => if_pos (iT p hp)
    have at_ : ∀ b u, (if b ∈ cs.map (·.2) then some (HO.tbl #[]) else none) = some u → b ∈ cs.map (·.2) ∧ u = .tbl #[] := fun b u z => by
      by_cases e : b ∈ cs.map (·.2)
      · rw [if_pos e] at z
        cases z
        exact ⟨e, rfl⟩
      · rw [if_neg e] at z
        cases z
    refine law_coreT (ns := ns) (H := fun b => if b ∈ cs.map (·.2) then some (HO.tbl #[]) else none) KX G B B2 L g0 TH bm ha hr F hb (fun b u z => .inr (at_ b u z)) hC (fun b u z => ?_) (hs _ hC (.inr ⟨_, vs.toArray, _, hk, rfl, rfl, rfl, by rw [List.size_toArray, hi.length]; exact hl, by simpa using rv⟩))
    obtain ⟨e, rfl⟩ := at_ b u z
    obtain ⟨p, hp, rfl⟩ := List.mem_map.mp e
    exact TH.em p hp
  | none =>
    have hC : ∀ p ∈ cs, (fun b => if b = a then some (HO.frz { cls := .type "list", data := .seq vs.toArray } (.lst (ns.map V.int))) else if b ∈ cs.map (·.2) then some (HO.tbl #[]) else none) p.2 = some (HO.tbl #[]) := fun p hp =>
      (if_neg (show ¬ p.2 = a from fun z => nA (by rw [← z]; exact iT p hp))).trans (if_pos (iT p hp))
    have key : ∀ b u, (if b = a then some (HO.frz { cls := .type "list", data := .seq vs.toArray } (.lst (ns.map V.int))) else if b ∈ cs.map (·.2) then some (HO.tbl #[]) else none) = some u →
        (b = a ∧ K.lookup a = none ∧ u = .frz { cls := .type "list", data := .seq vs.toArray } (.lst (ns.map V.int))) ∨ (b ∈ cs.map (·.2) ∧ u = .tbl #[]) := fun b u z => by
      by_cases e : b = a
      · rw [if_pos e] at z
        cases z
        exact .inl ⟨e, hk, rfl⟩
      · rw [if_neg e] at z
        by_cases e2 : b ∈ cs.map (·.2)
        · rw [if_pos e2] at z
          cases z
          exact .inr ⟨e2, rfl⟩
        · rw [if_neg e2] at z
          cases z
    refine law_coreT (H := fun b => if b = a then some (HO.frz { cls := .type "list", data := .seq vs.toArray } (.lst (ns.map V.int))) else if b ∈ cs.map (·.2) then some (HO.tbl #[]) else none) KX G B B2 L g0 TH bm ha hr F hb key hC (fun b u z => ?_)
      (hs _ hC (.inl (.inr ⟨{ cls := .type "list", data := .seq vs.toArray }, if_pos rfl⟩)))
    rcases key b u z with ⟨rfl, _, rfl⟩ | ⟨e, rfl⟩
    · exact ⟨ha, by rw [List.length_map]; exact hl, vs, _, rv, ha⟩
    · obtain ⟨p, hp, rfl⟩ := List.mem_map.mp e
      exact TH.em p hp
end
/-- the goal behind the head -/
theorem walkGT {l : PySem.W.OpenLaw} {n k : Nat} {q : Program} {loose : List Str} {XP : (Str → Option Value) → Heap → Prop} {YP : World → Heap → Prop} {d : DefRec} {K : Params → PySem.W.Frag} {x : Str} (hn : l.most = some n) (hz : n ≤ sizeLine) (hd : d.params.defaults = []) (hr : Room k callerA) (hY : ∀ (w : World) (h : Heap), YP w h → (K w.params).In h)
    (F : ∀ (w : World) (mg : Str → Option Value) (fa : Addr) (h : Heap), YP w h → (K w.params).In h → h.Ns mainGlobals mg → mg d.name = some (.ref fa) →
      ∃ (fd : FuncData) (cs : List (Addr × Addr)) (sp : Sp), (∀ (s : Shared) (u : Value), BindsTo s fd ⟨[u], []⟩ [(x, u)]) ∧ TabH (K w.params) h cs ∧ (∀ (H : Hp) (a : Addr) (ns : List Int), ns.length ≤ n → (∀ p ∈ cs, H p.2 = some (.tbl #[])) → SqL (K w.params) H a (ns.map V.int) → sp [.ref a] H (fun v _ => v = .bl true) E0) ∧
        ∀ base : Heap, (K w.params).In base → base.Ns mainGlobals mg → (∀ p ∈ cs, TabB base mg p.1 p.2) → FnG l.prog w (K w.params) mg base CX0 k fa fd [x] sp) : PySem.W.WalkO q loose XP YP l.row.toRowW d [] (fun f vs => PySem.call f vs) :=
  Att.attach_call hn hd fun w s₀ s₁ mg mb fa o pm cd doc a vs ns G Y ho hdd hcd hmg hobj hi hlen hg => by
    have KX := hY w _ Y
    obtain ⟨fd, cs, sp, hb, TH, hsp, hF⟩ := F w mg fa _ Y KX G.T.g hmg
    exact law_goT KX G.T.g G.T.b G.T.builtins G.T.nolimit hg TH G.T.bmain hobj hi (Nat.le_trans hlen hz) hr hF hb fun H hH hS => hsp H a ns hlen hH hS
open PySem PySem.Spec PyProof.Rows L2 LamX
/-! ### the law's defs that make lambdas -/
/-- a def whose code object is known -/
noncomputable def FnC (M : Md) (x : Str) (st : Stmt) (ps : List Str) (c : Addr) : Prop := ∃ (f : Addr) (oc kV doc pm ct : Value) (od an : Option Addr) (sl : Array (Option Value)),
  M.K.lookup f = some ⟨oc, od, .func (PySem.W.fnOf x x (defArgs st) (defBody st) (defScope st) .none kV doc pm an (.ref c) ct), sl⟩ ∧ PySem.W.codeIn M.K (.ref c) x = true ∧ M.mg x = some (.ref f) ∧ PySem.W.keepIn M.K (.ref f) = true ∧
  Binds M.K (PySem.W.fnOf x x (defArgs st) (defBody st) (defScope st) .none kV doc pm an (.ref c) ct) ps []
theorem FnG.ofC {P : Program} {w : World} {K : PySem.W.Frag} {mg : Str → Option Value} {base : Heap} {C : CXT} {k : Nat} {f : Addr} {ps : List Str} {sp : Sp} {x qual : Str} {st : Stmt} {N : List Str} {oc kV doc pm cd ct : Value} {od an : Option Addr} {sl : Array (Option Value)}
    (lk : K.lookup f = some ⟨oc, od, .func (PySem.W.fnOf x qual (defArgs st) (defBody st) (defScope st) .none kV doc pm an cd ct), sl⟩) (hc : PySem.W.codeIn K cd qual = true) (S : FnScope N ps (defScope st)) (n : ∀ zs H Q E, sp zs H Q E → zs.length = ps.length)
    (b : ∀ (A : Around) (o : List Env) (s : Shared) (H : Hp) (zs : List V) (Q : VK) (E : XK), A.guards = some [] → Room k (A.deeper (envOfC qual (defScope st) s.heap.objs.size f cd)) → sp zs H Q E →
      bestSs (cxOf C P w K mg base N qual (defScope st) f cd A o s H E).nox (defBody st) { nx := fun _ H' => Q .non H', rt := Q } (L2.start N zs) H) : FnG P w K mg base C (k + 1) f (PySem.W.fnOf x qual (defArgs st) (defBody st) (defScope st) .none kV doc pm an cd ct) ps sp := by
  refine ⟨n, fun {A o s H as us zs Q E} gd hr e0 hb r h => ?_⟩
  have up : ∀ b x, base.get? b = some x → s.heap.get? b = some x := fun b x e => (e0.bs b x e).1
  have KX : K.In s.heap := e0.mod.kin.keeps up
  have kinds : ∀ y ∈ ps.zip us, (defScope st).names.lookup y.1 = some .local ∨ ((defScope st).names.lookup y.1 = some .cell ∧ ((cellsFrom (s.heap.objs.size + 1) (defScope st).names []).lookup y.1).isSome = true) := fun ⟨y, z⟩ hy =>
    (S.par y (List.of_mem_zip hy).1).elim .inl fun q => .inr ⟨q, PySem.W.cellsFrom_some _ _ _ (.inl q)⟩
  refine codeAny_call_function hr.depth (KX _ _ lk) rfl S.co S.gen rfl (PySem.W.codeRec_of KX hc) (hb _ _ _ _ (wpAny_newFunctionEnv_cells S.kind kinds fun env he s1 x => ?_))
  subst he
  exact ⟨(e0.mod.nolimit.keeps up).keeps x.toInCall.keep, codeAny_func (wpAny_mono ((PSs.nox pss_best).run [] s1 _ H _ (inv_start S hr.hd e0 (n _ _ _ _ h) r x) (b A o s H zs Q E gd (hr.deeper _) h)) (fun _ _ z => cr_end z) fun _ _ z => z)⟩
/-- what the maker of a lambda has -/
noncomputable def LamM (M : Md) (X : Cx) (T : List (Addr × Str)) : Prop := ∃ c P, TabB M.base M.mg c P ∧ X.env.code = .ref c ∧ (P, X.env.qual ++ "<lambda>") ∈ T ∧ ∀ p ∈ T, p.1 = P → p.2 = X.env.qual ++ "<lambda>"
noncomputable def spN (K : PySem.W.Frag) (T : List (Addr × Str)) (g : List D → Bool → Prop) : Sp := fun vs H Q _ => ∃ (ds : List D) (b : Bool), Rps K H vs ds ∧ g ds b ∧ Tabs T H ∧ ∀ H', ExtN H H' → Tabs T H' → Q (.bl b) H'
noncomputable def DefN (M : Md) (T : List (Addr × Str)) (k : Nat) (x : Str) (g : List D → Bool → Prop) : Prop := ∃ (f : Addr) (fd : FuncData) (ps : List Str), FnG M.P M.w M.K M.mg M.base CX0 k f fd ps (spN M.K T g) ∧ M.mg x = some (.ref f) ∧ PySem.W.keepIn M.K (.ref f) = true ∧ Binds M.K fd ps []
theorem nfR_none : ∀ n : Nat, nfR (List.replicate n none) = true
  | 0 => rfl
  | n + 1 => nfR_none n
theorem nfR_rho : ∀ (ds : List D) (n : Nat), nfs ds = true → nfR ((ds.map fun d => some (T.sh d)) ++ List.replicate n none) = true
  | [], n, _ => nfR_none n
  | d :: ds, n, h => by
    show (nf d && nfR ((ds.map fun d => some (T.sh d)) ++ List.replicate n none)) = true
    rw [(and2 h).1, nfR_rho ds n (and2 h).2]
    rfl
section
variable {M : Md} {N : List Str} {sc : Scope} {fc : Str → Bool} {k : Nat} {X : Cx} {ρ : Rho} {x y : Str} {p p2 pos apos : Pos} {e : Expr} {es : List Expr} {ds : List D} {T : List (Addr × Str)} {ps : List Str} {st : Stmt} {c P : Addr}
theorem defN {g : List D → Bool → Prop} (F : FnC M x st ps c) (S : FnScope N ps (defScope st)) (TB : TabB M.base M.mg c P) (hT : (P, (x ++ ".<locals>.") ++ "<lambda>") ∈ T) (hu : ∀ p ∈ T, p.1 = P → p.2 = (x ++ ".<locals>.") ++ "<lambda>")
    (len : ∀ ds b, g ds b → ds.length = ps.length ∧ nfs ds = true) (body : ∀ X ds b, XF M N (defScope st) (fun _ => true) k X → LamM M X T → g ds b → SsN X T (rho0 N ds) (defBody st) { nx := fun _ => False, rt := fun t => t = .sh (.bl b) }) : DefN M T (k + 1) x g := by
  obtain ⟨f, oc, kV, doc, pm, ct, od, an, sl, lk, hc, hm, hk, hb⟩ := F
  refine ⟨f, _, ps, FnG.ofC (x := x) (qual := x) lk hc S (fun vs H Q E h => ?_) (fun A o s H vs Q E gd hr h => ?_), hm, hk, hb⟩
  · obtain ⟨ds, b, h1, h2, _⟩ := h
    rw [h1.len]
    exact (len ds b h2).1
  · obtain ⟨ds, b, h1, h2, h3, q⟩ := h
    have S0 : SN M.K (L2.start N vs) H (rho0 N ds) := by
      refine ⟨?_, nfR_rho _ _ (len ds b h2).2⟩
      unfold L2.start rho0
      rw [h1.len]
      exact RO.start _ h1
    have hX : XF M N (defScope st) (fun _ => true) k (cxOf CX0 M.P M.w M.K M.mg M.base N x (defScope st) f (.ref c) A o s H E).nox := ⟨rfl, rfl, rfl, rfl, rfl, rfl, rfl, S.nd, rfl, rfl, hr, rfl, gd⟩
    refine body _ ds b hX ⟨c, P, TB, rfl, hT, hu⟩ h2 _ H _ S0 h3 ⟨fun _ _ _ _ _ _ z => z.elim, fun v H' t r e t' z => ?_⟩
    have z' : t = .sh (.bl b) := z
    subst z'
    cases r
    exact q H' e t'
theorem TeN.call {j : Nat} {b : Bool} {g : List D → Bool → Prop} (hX : XF M N sc fc k X) (hF : DefN M T j x g) (ha : RdA X ρ (e :: es) ds) (q : g ds b) (hj : j ≤ k := by decide) (hg : glB sc x = true := by decide +kernel)
    (he : starEach (e :: es) X.env = (false, eval e X.env) :: starEach es X.env := by rfl) (hpl : (backTo pos (starEach es X.env)).any (·.1) = false := by rfl)
    (hv : ∀ whole, isTrue (.Call (.Name x p) (e :: es) [] pos) X.env whole = (do let v ← whole; standAt (Expr.Call (.Name x p) (e :: es) [] pos).pos; holding [v] (truthy v)) := by intro _; rfl) : TeN X T ρ (.Call (.Name x p) (e :: es) [] pos) b := fun σ H Q S t kk => by
  obtain ⟨f, fd, ps, F, hm, hk, hb⟩ := hF
  obtain ⟨h1, h2⟩ := hX.gl hg
  obtain ⟨pP, pw, pK, pm, pb, _, _, _, _, _, room, _, gd⟩ := hX
  cases M
  simp only at pP pw pK pm pb F hm hk hb
  subst pP pw pK pm pb
  exact bestT.of (pt_val (pe_callG F gd (room.mono hj) h1 hm hk hb pass0 pa_best h2 he hpl) hv) (ha σ H [] [] _ S.s3 fun vs H1 s r => ⟨ds, b, r, q, t.ext s, fun H' e t' => ⟨b, rfl, kk H' ((ExtN.of s).trans e) t'⟩⟩)
end
/-- what a law promises of its script, its tables empty -/
noncomputable def spLT (n : Nat) (K : PySem.W.Frag) (T : List (Addr × Str)) : Sp := fun vs H Q _ => ∃ (a : Addr) (ns : List Int), vs = [.ref a] ∧ SqL K H a (ns.map V.int) ∧ ns.length ≤ n ∧ Tabs T H ∧ ∀ H', Q (.bl true) H'
theorem law_fnT {M : Md} {x y : Str} {st : Stmt} {f cd : Addr} {N : List Str} {k n m : Nat} {rest : List Stmt} {p1 p2 p3 p4 p5 p6 : Pos} {c : Nat} {P : Addr} {T : List (Addr × Str)} {oc kV doc pm ct : Value} {od an : Option Addr} {sl : Array (Option Value)}
    (lk : M.K.lookup f = some ⟨oc, od, .func (PySem.W.fnOf y y (defArgs st) (defBody st) (defScope st) .none kV doc pm an (.ref cd) ct), sl⟩) (hc : PySem.W.codeIn M.K (.ref cd) y = true) (S : FnScope N [x] (defScope st)) (TB : TabB M.base M.mg cd P) (hT : (P, (y ++ ".<locals>.") ++ "<lambda>") ∈ T) (hu : ∀ p ∈ T, p.1 = P → p.2 = (y ++ ".<locals>.") ++ "<lambda>")
    (hb : defBody st = .Assign [.Name x p1] (.Subscript (.Name x p2) (.Slice none (some (.Constant (.int m) c p3)) none p4) p5) p6 :: rest) (hN : N = x :: N.tail) (hl : locB (defScope st) (fun _ => true) x = true) (hv : visB (defScope st) x = true) (hn : n ≤ m)
    (body : ∀ X ns, ns.length ≤ n → XF M N (defScope st) (fun _ => true) k X → LamM M X T → SsN X T (rho0 N [dR ns]) rest { nx := fun _ => False, rt := fun t => t = .sh (.bl true) }) : FnG M.P M.w M.K M.mg M.base CX0 (k + 1) f (PySem.W.fnOf y y (defArgs st) (defBody st) (defScope st) .none kV doc pm an (.ref cd) ct) [x] (spLT n M.K T) := by
  refine FnG.ofC (x := y) (qual := y) lk hc S (fun vs H Q E h => ?_) (fun A outer s H vs Q E gd hr h => ?_)
  · obtain ⟨a, ns, rfl, _⟩ := h
    rfl
  · obtain ⟨a, ns, rfl, hS, hlen, t0, q⟩ := h
    rw [hb]
    obtain ⟨h1, h2, h3⟩ := visB_ok hv
    have hN0 : N[0]? = some x := by
      rw [hN]
      rfl
    have hX : XF M N (defScope st) (fun _ => true) k (cxOf CX0 M.P M.w M.K M.mg M.base N y (defScope st) f (.ref cd) A outer s H E).nox := ⟨rfl, rfl, rfl, rfl, rfl, rfl, rfl, S.nd, rfl, rfl, hr, rfl, gd⟩
    refine bestSs.of (pss_cons (ps_set (i := 0) S.nd hN0 (hX.loc hl |>.1) (pe_slice sl_list (pe_var hN0 h1 h2 h3) po_none (po_some pe_int))) pss_best) ?_
    refine ⟨.ref a, rfl, m, rfl, a, ns.map V.int, rfl, hS, fun z hz => ?_⟩
    rw [cut_all (Nat.le_trans hlen hn)]
    have S0 : SN M.K ((L2.start N [V.ref a]).set 0 (some (.ref z))) (upd H z (.lst (ns.map V.int))) (rho0 N [dR ns]) := by
      refine ⟨RO.start (vs := [V.ref z]) (ds := [dR ns]) _ (.cons (.lst upd_same (rps_ints ns)) .nil), nfR_rho [dR ns] _ ?_⟩
      show (nfs (ns.map D.int) && true) = true
      rw [nfs_all fun d hd => by
        obtain ⟨i, _, rfl⟩ := List.mem_map.mp hd
        rfl]
      rfl
    refine body _ ns hlen hX ⟨cd, P, TB, rfl, hT, hu⟩ _ _ _ S0 (t0.ext (same_upd hz)) ⟨fun _ _ _ _ _ _ z => z.elim, fun v H' t r e t' z => ?_⟩
    have z' : t = .sh (.bl true) := z
    subst z'
    cases r
    exact q H'
open PySem PySem.Spec PyProof.Rows L2 LamX
section
variable {M : Md} {N : List Str} {sc : Scope} {fc : Str → Bool} {k : Nat} {X : Cx} {ρ : Rho} {x : Str} {p pos : Pos} {e : Expr} {es : List Expr} {ds : List D} {E : XK} {C : Addr}
/-- name(..) raises, where the slot holds a def -/
theorem Ex.callV {j : Nat} {f : Addr} {g : List D → Addr → Prop} (hX : XX M N sc fc k X E) (i : Nat) (hF : DefXA M j f g) (ha : RdA X.nox ρ (e :: es) ds) (q : g ds C) (hr : ρ[i]? = some (some (.sh (.at f))) := by rfl) (hN : N[i]? = some x := by rfl) (hv : visB sc x = true := by decide +kernel) (hj : j ≤ k := by decide)
    (he : starEach (e :: es) X.env = (false, eval e X.env) :: starEach es X.env := by rfl) (hpl : (backTo pos (starEach es X.env)).any (·.1) = false := by rfl) : Ex X E ρ (.Call (.Name x p) (e :: es) [] pos) C := fun σ H Fo G Q S w => by
  obtain ⟨fd, ps, F, hk, hb⟩ := hF
  obtain ⟨v1, v2, v3⟩ := visB_ok hv
  obtain ⟨v, F1, F2, F3, e1, r, e2, _⟩ := S.ro.get hr
  have e1' : σ[i]? = some (some (.ref f)) := by
    cases r with
    | sh r =>
      cases r
      exact e1
  have tk := hX.tk
  have hN' : X.N[i]? = some x := by
    have : X.N = N := hX.x.n
    rw [this]
    exact hN
  have hv' : Vis X.env.scope x := by
    have : X.env.scope = sc := hX.x.s
    rw [this]
    exact v1
  obtain ⟨pP, pw, pK, pm, pb, _, _, _, _, _, room, _, gd⟩ := hX.x
  cases M
  simp only at pP pw pK pm pb F hk hb
  have pP' : X.prog = _ := pP
  have pw' : X.w = _ := pw
  have pK' : X.K = _ := pK
  have pm' : X.mg = _ := pm
  have pb' : X.base = _ := pb
  subst pP' pw' pK' pm' pb'
  refine best.of (pe_callLG F gd (room.mono hj) hN' hv' hk hb (passes_call (E := E) tk fun _ _ _ _ h => h) (pa_nox pa_best) v2 v3 he hpl) ⟨e1', ha σ H Fo G _ S fun vs H1 s r => ?_⟩
  exact ⟨ds, C, r, q, fun H' s' => w H' (s.trans s')⟩
end
/-- a def of these data raises -/
noncomputable def AskX (M : Md) (f : Addr) (ds : List D) (C : Addr) : Prop := ∃ g, DefXA M 7 f g ∧ g ds C
theorem DefX.ask {M : Md} {j : Nat} {x : Str} {g : List D → Addr → Prop} (h : DefX M j x g) (hj : j ≤ 7 := by decide) : ∃ f, M.mg x = some (.ref f) ∧ ∀ ds C, g ds C → AskX M f ds C := by
  obtain ⟨f, hm, hF⟩ := h
  exact ⟨f, hm, fun ds C q => ⟨g, hF.mono hj, q⟩⟩
open PySem PySem.Spec PyProof.Rows L2 LamX
section
variable {M : Md} {N : List Str} {sc scope : Scope} {fc : Str → Bool} {k : Nat} {X : Cx} {ρ : Rho} {y : Str} {p2 pos : Pos} {elt iter : Expr} {Ts : List (Addr × Str)}
end
/-! ### the text -/
noncomputable def topS (i : Nat) : Stmt := PySem.Challenge.pw_restturns_k10_refused_tables.main.body.getD i (.Pass ⟨0, 0, 0, 0⟩)
noncomputable abbrev s_is_whole : Stmt := topS 14
noncomputable abbrev N_is_whole : List Str := ["thing"]
noncomputable abbrev P_is_whole : List Str := ["thing"]
theorem c_is_whole : FnScope N_is_whole P_is_whole (defScope s_is_whole) := ⟨rfl, rfl, rfl, by decide +kernel, rfl, by decide +kernel, by decide +kernel⟩
-- 0:thing
noncomputable abbrev s_check_round : Stmt := topS 15
noncomputable abbrev N_check_round : List Str := ["prime"]
noncomputable abbrev P_check_round : List Str := ["prime"]
theorem c_check_round : FnScope N_check_round P_check_round (defScope s_check_round) := ⟨rfl, rfl, rfl, by decide +kernel, rfl, by decide +kernel, by decide +kernel⟩
-- 0:prime
noncomputable abbrev s_is_row : Stmt := topS 16
noncomputable abbrev N_is_row : List Str := ["prime", "thing", "many", "one"]
noncomputable abbrev P_is_row : List Str := ["prime", "thing", "many"]
theorem c_is_row : FnScope N_is_row P_is_row (defScope s_is_row) := ⟨rfl, rfl, rfl, by decide +kernel, rfl, by decide +kernel, by decide +kernel⟩
-- 0:prime 1:thing 2:many 3:one
noncomputable abbrev s_is_table : Stmt := topS 17
noncomputable abbrev N_is_table : List Str := ["prime", "thing", "row"]
noncomputable abbrev P_is_table : List Str := ["prime", "thing"]
theorem c_is_table : FnScope N_is_table P_is_table (defScope s_is_table) := ⟨rfl, rfl, rfl, by decide +kernel, rfl, by decide +kernel, by decide +kernel⟩
-- 0:prime 1:thing 2:row
noncomputable abbrev s_check_table : Stmt := topS 18
noncomputable abbrev N_check_table : List Str := ["prime", "table"]
noncomputable abbrev P_check_table : List Str := ["prime", "table"]
theorem c_check_table : FnScope N_check_table P_check_table (defScope s_check_table) := ⟨rfl, rfl, rfl, by decide +kernel, rfl, by decide +kernel, by decide +kernel⟩
-- 0:prime 1:table
noncomputable abbrev s_check_one : Stmt := topS 19
noncomputable abbrev N_check_one : List Str := ["prime", "table"]
noncomputable abbrev P_check_one : List Str := ["prime", "table"]
theorem c_check_one : FnScope N_check_one P_check_one (defScope s_check_one) := ⟨rfl, rfl, rfl, by decide +kernel, rfl, by decide +kernel, by decide +kernel⟩
-- 0:prime 1:table
noncomputable abbrev s_check_two : Stmt := topS 20
noncomputable abbrev N_check_two : List Str := ["prime", "one", "other"]
noncomputable abbrev P_check_two : List Str := ["prime", "one", "other"]
theorem c_check_two : FnScope N_check_two P_check_two (defScope s_check_two) := ⟨rfl, rfl, rfl, by decide +kernel, rfl, by decide +kernel, by decide +kernel⟩
-- 0:prime 1:one 2:other
noncomputable abbrev s_unit_of : Stmt := topS 21
noncomputable abbrev N_unit_of : List Str := ["many", "row", "place"]
noncomputable abbrev P_unit_of : List Str := ["many"]
theorem c_unit_of : FnScope N_unit_of P_unit_of (defScope s_unit_of) := ⟨rfl, rfl, rfl, by decide +kernel, rfl, by decide +kernel, by decide +kernel⟩
-- 0:many 1:row 2:place
noncomputable abbrev s_moved_of : Stmt := topS 22
noncomputable abbrev N_moved_of : List Str := ["prime", "row", "table", "found", "place", "rest", "line"]
noncomputable abbrev P_moved_of : List Str := ["prime", "row", "table"]
theorem c_moved_of : FnScope N_moved_of P_moved_of (defScope s_moved_of) := ⟨rfl, rfl, rfl, by decide +kernel, rfl, by decide +kernel, by decide +kernel⟩
-- 0:prime 1:row 2:table 3:found 4:place 5:rest 6:line
noncomputable abbrev s_moved : Stmt := topS 23
noncomputable abbrev N_moved : List Str := ["prime", "row", "table"]
noncomputable abbrev P_moved : List Str := ["prime", "row", "table"]
theorem c_moved : FnScope N_moved P_moved (defScope s_moved) := ⟨rfl, rfl, rfl, by decide +kernel, rfl, by decide +kernel, by decide +kernel⟩
-- 0:prime 1:row 2:table
noncomputable abbrev s_behind_of : Stmt := topS 24
noncomputable abbrev N_behind_of : List Str := ["prime", "one", "other", "row"]
noncomputable abbrev P_behind_of : List Str := ["prime", "one", "other"]
theorem c_behind_of : FnScope N_behind_of P_behind_of (defScope s_behind_of) := ⟨rfl, rfl, rfl, by decide +kernel, rfl, by decide +kernel, by decide +kernel⟩
-- 0:prime 1:one 2:other 3:row
noncomputable abbrev s_behind : Stmt := topS 25
noncomputable abbrev N_behind : List Str := ["prime", "one", "other"]
noncomputable abbrev P_behind : List Str := ["prime", "one", "other"]
theorem c_behind : FnScope N_behind P_behind (defScope s_behind) := ⟨rfl, rfl, rfl, by decide +kernel, rfl, by decide +kernel, by decide +kernel⟩
-- 0:prime 1:one 2:other
-- 0:prime 1:one 2:other 3:times 4:found 5:mine 6:theirs 7:rest 8:more
noncomputable abbrev s_together : Stmt := topS 27
noncomputable abbrev N_together : List Str := ["prime", "one", "other"]
noncomputable abbrev P_together : List Str := ["prime", "one", "other"]
theorem c_together : FnScope N_together P_together (defScope s_together) := ⟨rfl, rfl, rfl, by decide +kernel, rfl, by decide +kernel, by decide +kernel⟩
-- 0:prime 1:one 2:other
-- 0:prime 1:table 2:times 3:found 4:here
noncomputable abbrev s_turned : Stmt := topS 29
noncomputable abbrev N_turned : List Str := ["prime", "table", "times"]
noncomputable abbrev P_turned : List Str := ["prime", "table", "times"]
theorem c_turned : FnScope N_turned P_turned (defScope s_turned) := ⟨rfl, rfl, rfl, by decide +kernel, rfl, by decide +kernel, by decide +kernel⟩
-- 0:prime 1:table 2:times
noncomputable abbrev s_back_of : Stmt := topS 31
noncomputable abbrev N_back_of : List Str := ["prime", "rest", "other"]
noncomputable abbrev P_back_of : List Str := ["prime", "rest"]
theorem c_back_of : FnScope N_back_of P_back_of (defScope s_back_of) := ⟨rfl, rfl, rfl, by decide +kernel, rfl, by decide +kernel, by decide +kernel⟩
-- 0:prime 1:rest 2:other
noncomputable abbrev s_less_of : Stmt := topS 32
noncomputable abbrev N_less_of : List Str := ["prime", "row", "lead", "spot", "one", "other"]
noncomputable abbrev P_less_of : List Str := ["prime", "row", "lead", "spot"]
theorem c_less_of : FnScope N_less_of P_less_of (defScope s_less_of) := ⟨rfl, rfl, rfl, by decide +kernel, rfl, by decide +kernel, by decide +kernel⟩
-- 0:prime 1:row 2:lead 3:spot 4:one 5:other
noncomputable abbrev s_cleared : Stmt := topS 33
noncomputable abbrev N_cleared : List Str := ["prime", "rows", "wide", "leads", "row", "spot", "free", "at", "here", "times", "one", "other"]
noncomputable abbrev P_cleared : List Str := ["prime", "rows", "wide"]
theorem c_cleared : FnScope N_cleared P_cleared (defScope s_cleared) := ⟨rfl, rfl, rfl, by decide +kernel, rfl, by decide +kernel, by decide +kernel⟩
-- 0:prime 1:rows 2:wide 3:leads 4:row 5:spot 6:free 7:at 8:here 9:times 10:one 11:other
noncomputable abbrev s_rank_of : Stmt := topS 34
noncomputable abbrev N_rank_of : List Str := ["prime", "rows"]
noncomputable abbrev P_rank_of : List Str := ["prime", "rows"]
theorem c_rank_of : FnScope N_rank_of P_rank_of (defScope s_rank_of) := ⟨rfl, rfl, rfl, by decide +kernel, rfl, by decide +kernel, by decide +kernel⟩
-- 0:prime 1:rows
-- 0:prime 1:table 2:rule 3:found 4:here 5:row 6:rest
-- 0:table 1:row
-- 0:prime 1:thing
-- 0:prime 1:table 2:row 3:found 4:turn
-- 0:number 1:found 2:prime
-- 0:self 1:table 2:row
-- 0:self 1:prime 2:table
-- 0:self 1:row
-- 0:self 1:prime 2:table
-- 0:self 1:row
-- 0:self 1:prime 2:table
-- 0:self 1:rule
-- 0:self 1:prime 2:table 3:powers 4:times
-- 0:self 1:many 2:tables 3:table 4:row
-- 0:self 1:prime 2:table 3:due 4:one
-- 0:self 1:table 2:row
-- 0:self 1:prime 2:one 3:other 4:lead
-- 0:self 1:rule
-- 0:self 1:prime 2:one 3:other 4:ranks 5:table
-- 0:self 1:numbers
-- 0:self 1:prime 2:tables 3:aim 4:here 5:number
-- 0:self 1:tables 2:table 3:row
-- 0:self 1:prime 2:tables 3:aim 4:every 5:table 6:one 7:other 8:here
-- 0:prime 1:table 2:many 3:rows 4:leads 5:row 6:more
noncomputable abbrev s_undone : Stmt := topS 53
noncomputable abbrev N_undone : List Str := ["prime", "table"]
noncomputable abbrev P_undone : List Str := ["prime", "table"]
theorem c_undone : FnScope N_undone P_undone (defScope s_undone) := ⟨rfl, rfl, rfl, by decide +kernel, rfl, by decide +kernel, by decide +kernel⟩
-- 0:prime 1:table
noncomputable abbrev s_rank : Stmt := topS 54
noncomputable abbrev N_rank : List Str := ["prime", "table"]
noncomputable abbrev P_rank : List Str := ["prime", "table"]
theorem c_rank : FnScope N_rank P_rank (defScope s_rank) := ⟨rfl, rfl, rfl, by decide +kernel, rfl, by decide +kernel, by decide +kernel⟩
-- 0:prime 1:table
noncomputable abbrev s_worth_of : Stmt := topS 55
noncomputable abbrev N_worth_of : List Str := ["prime", "table", "found", "place", "rest", "less", "row"]
noncomputable abbrev P_worth_of : List Str := ["prime", "table"]
theorem c_worth_of : FnScope N_worth_of P_worth_of (defScope s_worth_of) := ⟨rfl, rfl, rfl, by decide +kernel, rfl, by decide +kernel, by decide +kernel⟩
-- 0:prime 1:table 2:found 3:place 4:rest 5:less 6:row
noncomputable abbrev s_worth : Stmt := topS 56
noncomputable abbrev N_worth : List Str := ["prime", "table"]
noncomputable abbrev P_worth : List Str := ["prime", "table"]
theorem c_worth : FnScope N_worth P_worth (defScope s_worth) := ⟨rfl, rfl, rfl, by decide +kernel, rfl, by decide +kernel, by decide +kernel⟩
-- 0:prime 1:table
noncomputable abbrev s_at_rule : Stmt := topS 58
noncomputable abbrev N_at_rule : List Str := ["prime", "table", "rule"]
noncomputable abbrev P_at_rule : List Str := ["prime", "table", "rule"]
theorem c_at_rule : FnScope N_at_rule P_at_rule (defScope s_at_rule) := ⟨rfl, rfl, rfl, by decide +kernel, rfl, by decide +kernel, by decide +kernel⟩
-- 0:prime 1:table 2:rule
-- 0:prime 1:table 2:powers 3:times
-- 0:prime 1:powers 2:many 3:lines 4:spot 5:row 6:rows 7:at
noncomputable abbrev s_least_rule : Stmt := topS 61
noncomputable abbrev N_least_rule : List Str := ["prime", "table"]
noncomputable abbrev P_least_rule : List Str := ["prime", "table"]
theorem c_least_rule : FnScope N_least_rule P_least_rule (defScope s_least_rule) := ⟨rfl, rfl, rfl, by decide +kernel, rfl, by decide +kernel, by decide +kernel⟩
-- 0:prime 1:table
-- 0:prime 1:table 2:many 3:trace 4:at 5:whole 6:pairs 7:one 8:other 9:row 10:place
noncomputable abbrev s_own_rule : Stmt := topS 63
noncomputable abbrev N_own_rule : List Str := ["prime", "table"]
noncomputable abbrev P_own_rule : List Str := ["prime", "table"]
theorem c_own_rule : FnScope N_own_rule P_own_rule (defScope s_own_rule) := ⟨rfl, rfl, rfl, by decide +kernel, rfl, by decide +kernel, by decide +kernel⟩
-- 0:prime 1:table
-- 0:prime 1:many 2:found 3:turn 4:longer 5:row 6:rest
noncomputable abbrev s_spanning : Stmt := topS 65
noncomputable abbrev N_spanning : List Str := ["prime", "table", "rule", "row"]
noncomputable abbrev P_spanning : List Str := ["prime", "table"]
theorem c_spanning : FnScope N_spanning P_spanning (defScope s_spanning) := ⟨rfl, rfl, rfl, by decide +kernel, rfl, by decide +kernel, by decide +kernel⟩
-- 0:prime 1:table 2:rule 3:row
-- 0:prime 1:table 2:met 3:here 4:times 5:first
noncomputable abbrev s_comes_round : Stmt := topS 68
noncomputable abbrev N_comes_round : List Str := ["prime", "table"]
noncomputable abbrev P_comes_round : List Str := ["prime", "table"]
theorem c_comes_round : FnScope N_comes_round P_comes_round (defScope s_comes_round) := ⟨rfl, rfl, rfl, by decide +kernel, rfl, by decide +kernel, by decide +kernel⟩
-- 0:prime 1:table
noncomputable abbrev s_back : Stmt := topS 69
noncomputable abbrev N_back : List Str := ["prime", "table", "many", "one"]
noncomputable abbrev P_back : List Str := ["prime", "table"]
theorem c_back : FnScope N_back P_back (defScope s_back) := ⟨rfl, rfl, rfl, by decide +kernel, rfl, by decide +kernel, by decide +kernel⟩
-- 0:prime 1:table 2:many 3:one
noncomputable abbrev s_check_rows : Stmt := topS 71
noncomputable abbrev N_check_rows : List Str := ["prime", "rows"]
noncomputable abbrev P_check_rows : List Str := ["prime", "rows"]
theorem c_check_rows : FnScope N_check_rows P_check_rows (defScope s_check_rows) := ⟨rfl, rfl, rfl, by decide +kernel, rfl, by decide +kernel, by decide +kernel⟩
-- 0:prime 1:rows
noncomputable abbrev s_how_many : Stmt := topS 72
noncomputable abbrev N_how_many : List Str := ["prime", "rows", "found", "turn"]
noncomputable abbrev P_how_many : List Str := ["prime", "rows"]
theorem c_how_many : FnScope N_how_many P_how_many (defScope s_how_many) := ⟨rfl, rfl, rfl, by decide +kernel, rfl, by decide +kernel, by decide +kernel⟩
-- 0:prime 1:rows 2:found 3:turn
-- 0:prime 1:times 2:found 3:turn
-- 0:prime 1:rows
-- 0:prime 1:rows 2:many 3:found 4:flat 5:table 6:at
noncomputable abbrev s_check_many : Stmt := topS 76
noncomputable abbrev N_check_many : List Str := ["prime", "rows", "many"]
noncomputable abbrev P_check_many : List Str := ["prime", "rows", "many"]
theorem c_check_many : FnScope N_check_many P_check_many (defScope s_check_many) := ⟨rfl, rfl, rfl, by decide +kernel, rfl, by decide +kernel, by decide +kernel⟩
-- 0:prime 1:rows 2:many
noncomputable abbrev s_of_order : Stmt := topS 77
noncomputable abbrev N_of_order : List Str := ["prime", "rows", "many"]
noncomputable abbrev P_of_order : List Str := ["prime", "rows", "many"]
theorem c_of_order : FnScope N_of_order P_of_order (defScope s_of_order) := ⟨rfl, rfl, rfl, by decide +kernel, rfl, by decide +kernel, by decide +kernel⟩
-- 0:prime 1:rows 2:many
noncomputable abbrev s_table_by : Stmt := topS 78
noncomputable abbrev N_table_by : List Str := ["prime", "rows", "many", "number", "some"]
noncomputable abbrev P_table_by : List Str := ["prime", "rows", "many", "number"]
theorem c_table_by : FnScope N_table_by P_table_by (defScope s_table_by) := ⟨rfl, rfl, rfl, by decide +kernel, rfl, by decide +kernel, by decide +kernel⟩
-- 0:prime 1:rows 2:many 3:number 4:some
noncomputable abbrev s_number_of : Stmt := topS 79
noncomputable abbrev N_number_of : List Str := ["prime", "table"]
noncomputable abbrev P_number_of : List Str := ["prime", "table"]
theorem c_number_of : FnScope N_number_of P_number_of (defScope s_number_of) := ⟨rfl, rfl, rfl, by decide +kernel, rfl, by decide +kernel, by decide +kernel⟩
-- 0:prime 1:table
noncomputable abbrev s_check_tables : Stmt := topS 82
noncomputable abbrev N_check_tables : List Str := ["prime", "tables", "table"]
noncomputable abbrev P_check_tables : List Str := ["prime", "tables"]
theorem c_check_tables : FnScope N_check_tables P_check_tables (defScope s_check_tables) := ⟨rfl, rfl, rfl, by decide +kernel, rfl, by decide +kernel, by decide +kernel⟩
-- 0:prime 1:tables 2:table
noncomputable abbrev s_words_of : Stmt := topS 83
noncomputable abbrev N_words_of : List Str := ["prime", "tables", "line", "met", "longer", "here", "word", "number", "table", "there"]
noncomputable abbrev P_words_of : List Str := ["prime", "tables"]
theorem c_words_of : FnScope N_words_of P_words_of (defScope s_words_of) := ⟨rfl, rfl, rfl, by decide +kernel, rfl, by decide +kernel, by decide +kernel⟩
-- 0:prime 1:tables 2:line 3:met 4:longer 5:here 6:word 7:number 8:table 9:there
noncomputable abbrev s_made : Stmt := topS 84
noncomputable abbrev N_made : List Str := ["prime", "tables", "table", "word"]
noncomputable abbrev P_made : List Str := ["prime", "tables"]
theorem c_made : FnScope N_made P_made (defScope s_made) := ⟨rfl, rfl, rfl, by decide +kernel, rfl, by decide +kernel, by decide +kernel⟩
-- 0:prime 1:tables 2:table 3:word
noncomputable abbrev s_word : Stmt := topS 85
noncomputable abbrev N_word : List Str := ["prime", "tables", "aim", "every", "table", "numbers"]
noncomputable abbrev P_word : List Str := ["prime", "tables", "aim"]
theorem c_word : FnScope N_word P_word (defScope s_word) := ⟨rfl, rfl, rfl, by decide +kernel, rfl, by decide +kernel, by decide +kernel⟩
-- 0:prime 1:tables 2:aim 3:every 4:table 5:numbers
-- 0:prime 1:one 2:other 3:many 4:lines 5:row 6:place 7:line 8:at 9:rest 10:rows 11:leads 12:found 13:free 14:spot
-- 0:prime 1:rows 2:number 3:found 4:at 5:row 6:times 7:one 8:more
-- 0:prime 1:one 2:other 3:many 4:rows 5:number 6:flat 7:found 8:at
-- 0:prime 1:rows 2:many 3:times 4:flat 5:often 6:row 7:one 8:more 9:found 10:at
noncomputable abbrev s_alike : Stmt := topS 91
noncomputable abbrev N_alike : List Str := ["prime", "one", "other", "mine", "theirs", "rules", "rest", "row", "rule"]
noncomputable abbrev P_alike : List Str := ["prime", "one", "other"]
theorem c_alike : FnScope N_alike P_alike (defScope s_alike) := ⟨rfl, rfl, rfl, by decide +kernel, rfl, by decide +kernel, by decide +kernel⟩
-- 0:prime 1:one 2:other 3:mine 4:theirs 5:rules 6:rest 7:row 8:rule
noncomputable abbrev s__law_cell_at : Stmt := topS 93
noncomputable abbrev N__law_cell_at : List Str := ["_law_script", "_law_k"]
noncomputable abbrev P__law_cell_at : List Str := ["_law_script", "_law_k"]
theorem c__law_cell_at : FnScope N__law_cell_at P__law_cell_at (defScope s__law_cell_at) := ⟨rfl, rfl, rfl, by decide +kernel, rfl, by decide +kernel, by decide +kernel⟩
-- 0:_law_script 1:_law_k
noncomputable abbrev s__law_draw : Stmt := topS 94
noncomputable abbrev N__law_draw : List Str := ["_law_cell", "_law_k", "_law_many", "_law_primes"]
noncomputable abbrev P__law_draw : List Str := ["_law_cell", "_law_k", "_law_many"]
theorem c__law_draw : FnScope N__law_draw P__law_draw (defScope s__law_draw) := ⟨rfl, rfl, rfl, by decide +kernel, rfl, by decide +kernel, by decide +kernel⟩
-- 0:_law_cell 1:_law_k 2:_law_many 3:_law_primes
noncomputable abbrev s__law_value : Stmt := topS 95
noncomputable abbrev N__law_value : List Str := ["_law_cell", "_law_turn", "_law_rest", "_law_blend"]
noncomputable abbrev P__law_value : List Str := ["_law_cell", "_law_turn"]
theorem c__law_value : FnScope N__law_value P__law_value (defScope s__law_value) := ⟨rfl, rfl, rfl, by decide +kernel, rfl, by decide +kernel, by decide +kernel⟩
-- 0:_law_cell 1:_law_turn 2:_law_rest 3:_law_blend
noncomputable abbrev s__law_kinds : Stmt := topS 96
noncomputable abbrev N__law_kinds : List Str := ["_law_ask", "_law_found", "error"]
noncomputable abbrev P__law_kinds : List Str := ["_law_ask"]
theorem c__law_kinds : FnScope N__law_kinds P__law_kinds (defScope s__law_kinds) := ⟨rfl, rfl, rfl, by decide +kernel, rfl, by decide +kernel, by decide +kernel⟩
-- 0:_law_ask 1:_law_found 2:error
noncomputable abbrev s__law_due_of : Stmt := topS 97
noncomputable abbrev N__law_due_of : List Str := ["_law_at", "_law_one"]
noncomputable abbrev P__law_due_of : List Str := ["_law_at"]
theorem c__law_due_of : FnScope N__law_due_of P__law_due_of (defScope s__law_due_of) := ⟨rfl, rfl, rfl, by decide +kernel, rfl, by decide +kernel, by decide +kernel⟩
-- 0:_law_at 1:_law_one
noncomputable abbrev s__law_strange : Stmt := topS 98
noncomputable abbrev N__law_strange : List Str := ["_law_far"]
noncomputable abbrev P__law_strange : List Str := ["_law_far"]
theorem c__law_strange : FnScope N__law_strange P__law_strange (defScope s__law_strange) := ⟨rfl, rfl, rfl, by decide +kernel, rfl, by decide +kernel, by decide +kernel⟩
-- 0:_law_far
noncomputable abbrev s__law_rounds_right : Stmt := topS 99
noncomputable abbrev N__law_rounds_right : List Str := ["_law_far", "_law_bad", "_law_ask"]
noncomputable abbrev P__law_rounds_right : List Str := ["_law_far"]
theorem c__law_rounds_right : FnScope N__law_rounds_right P__law_rounds_right (defScope s__law_rounds_right) := ⟨rfl, rfl, rfl, by decide +kernel, rfl, by decide +kernel, by decide +kernel⟩
-- 0:_law_far 1:_law_bad 2:_law_ask
noncomputable abbrev s__law_no_tables : Stmt := topS 100
noncomputable abbrev N__law_no_tables : List Str := ["_law_far", "_law_bad", "_law_strange_here"]
noncomputable abbrev P__law_no_tables : List Str := ["_law_far"]
theorem c__law_no_tables : FnScope N__law_no_tables P__law_no_tables (defScope s__law_no_tables) := ⟨rfl, rfl, rfl, by decide +kernel, rfl, by decide +kernel, by decide +kernel⟩
-- 0:_law_far 1:_law_bad 2:_law_strange_here
noncomputable abbrev s__law_tables_right : Stmt := topS 101
noncomputable abbrev N__law_tables_right : List Str := ["_law_far", "_law_good", "_law_bad", "_law_ask"]
noncomputable abbrev P__law_tables_right : List Str := ["_law_far"]
theorem c__law_tables_right : FnScope N__law_tables_right P__law_tables_right (defScope s__law_tables_right) := ⟨rfl, rfl, rfl, by decide +kernel, rfl, by decide +kernel, by decide +kernel⟩
-- 0:_law_far 1:_law_good 2:_law_bad 3:_law_ask
noncomputable abbrev s_law : Stmt := topS 102
noncomputable abbrev N_law : List Str := ["_law_script", "_law_by", "_law_far", "_law_one", "_law_other", "_law_ask"]
noncomputable abbrev P_law : List Str := ["_law_script"]
theorem c_law : FnScope N_law P_law (defScope s_law) := ⟨rfl, rfl, rfl, by decide +kernel, rfl, by decide +kernel, by decide +kernel⟩
-- 0:_law_script 1:_law_by 2:_law_far 3:_law_one 4:_law_other 5:_law_ask
/-! ### the mathematics of tables -/
noncomputable def isRow (p : Int) (xs : List Int) (n : Int) : Bool := decide ((xs.length : Int) = n) && xs.all fun x => decide (0 ≤ x) && decide (x < p)
noncomputable def isTable (p : Int) (t : List (List Int)) : Bool := (decide (1 ≤ (t.length : Int)) && decide ((t.length : Int) ≤ 3)) && t.all fun r => isRow p r t.length
/-- a table of n rows by p -/
structure Tab (p : Int) (n : Nat) (t : List (List Int)) : Prop where
  len : t.length = n
  row : ∀ r ∈ t, r.length = n ∧ ∀ x ∈ r, 0 ≤ x ∧ x < p
structure RowOk (p : Int) (n : Nat) (r : List Int) : Prop where
  len : r.length = n
  rest : ∀ x ∈ r, 0 ≤ x ∧ x < p
noncomputable def Round (p : Int) : Prop := p = 2 ∨ p = 3 ∨ p = 5 ∨ p = 7
noncomputable def unitL (n : Nat) : List (List Int) := (List.range n).map fun i => (List.range n).map fun j => if i = j then 1 else 0
noncomputable def movedL (p : Int) (row : List Int) (t : List (List Int)) : List Int := (List.range t.length).map fun j => ((row.zip t).map fun q => q.1 * q.2.getD j 0).sum % p
noncomputable def behindL (p : Int) (one other : List (List Int)) : List (List Int) := one.map fun r => movedL p r other
theorem Round.pos {p : Int} (h : Round p) : 0 < p := by rcases h with h | h | h | h <;> omega
theorem Round.le {p : Int} (h : Round p) : p ≤ 7 := by rcases h with h | h | h | h <;> omega
theorem Tab.mem {p : Int} {n : Nat} {t : List (List Int)} (h : Tab p n t) {r : List Int} (hr : r ∈ t) : RowOk p n r := ⟨(h.row r hr).1, (h.row r hr).2⟩
theorem Tab.isTable {p : Int} {n : Nat} {t : List (List Int)} (h : Tab p n t) (h1 : 1 ≤ n) (h3 : n ≤ 3) : isTable p t = true := by
  unfold L3.isTable L3.isRow
  rw [h.len]
  simp only [Bool.and_eq_true, decide_eq_true_eq, List.all_eq_true]
  refine ⟨by omega, fun r hr => ⟨by rw [(h.row r hr).1], (h.row r hr).2⟩⟩
theorem isRow_ok {p : Int} {n : Nat} {r : List Int} (h : isRow p r n = true) : RowOk p n r := by
  unfold L3.isRow at h
  simp only [Bool.and_eq_true, decide_eq_true_eq, List.all_eq_true] at h
  exact ⟨by omega, h.2⟩
theorem isTable_ok {p : Int} {t : List (List Int)} (h : isTable p t = true) : Tab p t.length t ∧ 1 ≤ t.length ∧ t.length ≤ 3 := by
  unfold L3.isTable at h
  simp only [Bool.and_eq_true, decide_eq_true_eq, List.all_eq_true] at h
  refine ⟨⟨rfl, fun r hr => ?_⟩, by omega, by omega⟩
  have := isRow_ok (h.2 r hr)
  exact ⟨this.len, this.rest⟩
theorem movedL_len (p : Int) (row : List Int) (t : List (List Int)) : (movedL p row t).length = t.length := by
  unfold movedL
  rw [List.length_map, List.length_range]
theorem movedL_ok {p : Int} (hp : 0 < p) (row : List Int) (t : List (List Int)) : RowOk p t.length (movedL p row t) := ⟨movedL_len p row t, fun x hx => by
  obtain ⟨j, _, rfl⟩ := List.mem_map.mp hx
  exact ⟨Int.emod_nonneg _ (by omega), Int.emod_lt_of_pos _ hp⟩⟩
theorem behindL_ok {p : Int} (hp : 0 < p) {n : Nat} {one other : List (List Int)} (h1 : one.length = n) (h2 : other.length = n) : Tab p n (behindL p one other) := ⟨by unfold behindL; rw [List.length_map, h1], fun r hr => by
  obtain ⟨q, _, rfl⟩ := List.mem_map.mp hr
  have := movedL_ok hp q other
  rw [h2] at this
  exact ⟨this.len, this.rest⟩⟩
theorem unitL_len (n : Nat) : (unitL n).length = n := by
  unfold unitL
  rw [List.length_map, List.length_range]
theorem unitL_ok {p : Int} (hp : 2 ≤ p) (n : Nat) : Tab p n (unitL n) := ⟨unitL_len n, fun r hr => by
  obtain ⟨i, _, rfl⟩ := List.mem_map.mp hr
  refine ⟨by rw [List.length_map, List.length_range], fun x hx => ?_⟩
  obtain ⟨j, _, rfl⟩ := List.mem_map.mp hx
  split <;> omega⟩
theorem Round.two {p : Int} (h : Round p) : 2 ≤ p := by rcases h with h | h | h | h <;> omega
/-! ### the algebra of tables -/
noncomputable def sm (n : Nat) (f : Nat → Int) : Int := ((List.range n).map f).sum
theorem sm_succ (n : Nat) (f : Nat → Int) : sm (n + 1) f = sm n f + f n := by
  unfold sm
  rw [List.range_succ, List.map_append, List.sum_append]
  show _ + (f n + 0) = _
  rw [Int.add_zero]
theorem sm_congr {n : Nat} {f g : Nat → Int} (h : ∀ i, i < n → f i = g i) : sm n f = sm n g := by
  unfold sm
  rw [List.map_congr_left fun i hi => h i (List.mem_range.mp hi)]
theorem sm_mod (n : Nat) (p : Int) (f : Nat → Int) : sm n (fun i => f i % p) % p = sm n f % p := by
  induction n with
  | zero => rfl
  | succ n ih =>
    rw [sm_succ, sm_succ, Int.add_emod, ih, Int.emod_emod_of_dvd _ (Int.dvd_refl p), ← Int.add_emod]
theorem sm_modc {n : Nat} {p : Int} {f g : Nat → Int} (h : ∀ i, i < n → f i % p = g i % p) : sm n f % p = sm n g % p := by
  rw [← sm_mod n p f, ← sm_mod n p g, sm_congr h]
/-- a table by its rests -/
noncomputable def ent (t : List (List Int)) (i j : Nat) : Int := (t.getD i []).getD j 0
theorem row_ext {n : Nat} {r s : List Int} (hr : r.length = n) (hs : s.length = n) (h : ∀ j, j < n → r.getD j 0 = s.getD j 0) : r = s := by
  refine List.ext_getElem? fun j => ?_
  by_cases q : j < n
  · have e := h j q
    rw [List.getD_eq_getElem?_getD, List.getD_eq_getElem?_getD, List.getElem?_eq_getElem (by omega), List.getElem?_eq_getElem (by omega)] at e
    rw [List.getElem?_eq_getElem (by omega), List.getElem?_eq_getElem (by omega)]
    exact congrArg some e
  · rw [List.getElem?_eq_none (by omega), List.getElem?_eq_none (by omega)]
theorem getD_range {α : Type} {n : Nat} (f : Nat → α) (d : α) {j : Nat} (h : j < n) : ((List.range n).map f).getD j d = f j := by
  rw [List.getD_eq_getElem?_getD, List.getElem?_map, List.getElem?_range h]
  rfl
theorem getD_mem {α : Type} {xs : List α} {i : Nat} (d : α) (h : i < xs.length) : xs.getD i d ∈ xs := by
  rw [List.getD_eq_getElem?_getD, List.getElem?_eq_getElem h]
  exact List.getElem_mem h
theorem Tab.ent {p : Int} {n : Nat} {t : List (List Int)} (h : Tab p n t) {i j : Nat} (hi : i < n) (hj : j < n) : 0 ≤ ent t i j ∧ ent t i j < p := by
  have hr := getD_mem (xs := t) [] (by rw [h.len]; exact hi)
  have := h.row _ hr
  exact this.2 _ (getD_mem 0 (by rw [this.1]; exact hj))
theorem Tab.behind {p : Int} (hp : 0 < p) {n : Nat} {a b : List (List Int)} (ha : Tab p n a) (hb : Tab p n b) : Tab p n (behindL p a b) := behindL_ok hp ha.len hb.len
/-! ### rows that are made of some: by lists -/
noncomputable def addL (p : Int) (row : List Int) (times : Int) (one : List Int) : List Int := (one.zip row).map fun z => (z.1 + times * z.2) % p
/-! ### all rows, all tables -/
noncomputable abbrev Tb := List (List Int)
noncomputable def rowsA (p : Int) : Nat → List (List Int)
  | 0 => [[]]
  | n + 1 => ((rowsA p n).map fun r => (List.range p.toNat).map fun (x : Nat) => (x : Int) :: r).flatten
noncomputable def tabsA (p : Int) (n : Nat) : Nat → List Tb
  | 0 => [[]]
  | m + 1 => ((tabsA p n m).map fun t => (rowsA p n).map fun r => r :: t).flatten
theorem rowsA_mem {p : Int} : ∀ {r : List Int}, (∀ x ∈ r, 0 ≤ x ∧ x < p) → r ∈ rowsA p r.length
  | [], _ => List.mem_singleton.mpr rfl
  | x :: r, h => by
    have hx := h x (List.mem_cons_self ..)
    refine List.mem_flatten.mpr ⟨_, List.mem_map.mpr ⟨r, rowsA_mem fun y hy => h y (List.mem_cons_of_mem _ hy), rfl⟩, List.mem_map.mpr ⟨x.toNat, List.mem_range.mpr (by omega), ?_⟩⟩
    rw [Int.toNat_of_nonneg hx.1]
theorem tabsA_mem {p : Int} {n : Nat} : ∀ {t : Tb}, (∀ r ∈ t, r.length = n ∧ ∀ x ∈ r, 0 ≤ x ∧ x < p) → t ∈ tabsA p n t.length
  | [], _ => List.mem_singleton.mpr rfl
  | r :: t, h => by
    have hr := h r (List.mem_cons_self ..)
    refine List.mem_flatten.mpr ⟨_, List.mem_map.mpr ⟨t, tabsA_mem fun y hy => h y (List.mem_cons_of_mem _ hy), rfl⟩, List.mem_map.mpr ⟨r, ?_, rfl⟩⟩
    have := rowsA_mem hr.2
    rw [hr.1] at this
    exact this
theorem Tab.all {p : Int} {n : Nat} {t : Tb} (h : Tab p n t) : t ∈ tabsA p n n := by
  have := tabsA_mem h.row
  rw [h.len] at this
  exact this
/-! ### rests as a field -/
noncomputable def Zp (p : Int) : Type := Quot fun a b : Int => a % p = b % p
class Rnd (p : Int) : Prop where
  h : Round p
namespace Zp
variable {p : Int}
noncomputable def mk (p a : Int) : Zp p := Quot.mk _ a
noncomputable def val : Zp p → Int := Quot.lift (· % p) fun _ _ h => h
theorem sound {a b : Int} (h : a % p = b % p) : mk p a = mk p b := Quot.sound h
theorem exact {a b : Int} (h : mk p a = mk p b) : a % p = b % p := congrArg val h
theorem mk_mod (a : Int) : mk p (a % p) = mk p a := sound (Int.emod_emod_of_dvd _ (Int.dvd_refl p))
theorem mk_val (z : Zp p) : mk p (val z) = z := by
  induction z using Quot.ind
  exact mk_mod _
theorem val_mod (z : Zp p) : val z % p = val z := by
  induction z using Quot.ind
  exact Int.emod_emod_of_dvd _ (Int.dvd_refl p)
noncomputable def lift1 (f : Int → Int) (h : ∀ a b, a % p = b % p → f a % p = f b % p) : Zp p → Zp p := Quot.lift (fun a => mk p (f a)) fun a b e => sound (h a b e)
noncomputable def lift2 (f : Int → Int → Int) (h : ∀ a b c d, a % p = b % p → c % p = d % p → f a c % p = f b d % p) : Zp p → Zp p → Zp p :=
  Quot.lift (fun a => Quot.lift (fun c => mk p (f a c)) fun c d e => sound (h a a c d rfl e)) fun a b e => funext fun z => by
    induction z using Quot.ind
    exact sound (h a b _ _ e rfl)
noncomputable def add : Zp p → Zp p → Zp p := lift2 (· + ·) fun a b c d e1 e2 => by
  show (a + c) % p = (b + d) % p
  rw [Int.add_emod, e1, e2, ← Int.add_emod]
noncomputable def mul : Zp p → Zp p → Zp p := lift2 (· * ·) fun a b c d e1 e2 => by
  show (a * c) % p = (b * d) % p
  rw [Int.mul_emod, e1, e2, ← Int.mul_emod]
noncomputable def neg : Zp p → Zp p := lift1 (- ·) fun a b e => by
  show (-a) % p = (-b) % p
  have h := Int.emod_emod_of_dvd a (Int.dvd_refl p)
  have h1 : (-a) % p = (-(a % p)) % p := by
    rw [← Int.zero_sub, ← Int.zero_sub, Int.sub_emod 0 a, Int.sub_emod 0 (a % p), h]
  have h2 : (-b) % p = (-(b % p)) % p := by
    rw [← Int.zero_sub, ← Int.zero_sub, Int.sub_emod 0 b, Int.sub_emod 0 (b % p), Int.emod_emod_of_dvd b (Int.dvd_refl p)]
  rw [h1, h2, e]
noncomputable def pow (z : Zp p) : Nat → Zp p
  | 0 => mk p 1
  | n + 1 => mul (pow z n) z
noncomputable def inv (z : Zp p) : Zp p := mk p (val z ^ (2 * p - 3).toNat)
noncomputable instance : Add (Zp p) := ⟨add⟩
noncomputable instance : Mul (Zp p) := ⟨mul⟩
noncomputable instance : Neg (Zp p) := ⟨neg⟩
noncomputable instance : Sub (Zp p) := ⟨fun a b => add a (neg b)⟩
noncomputable instance : Inv (Zp p) := ⟨inv⟩
noncomputable instance : Div (Zp p) := ⟨fun a b => mul a (inv b)⟩
noncomputable instance : NatCast (Zp p) := ⟨fun n => mk p n⟩
noncomputable instance : IntCast (Zp p) := ⟨fun n => mk p n⟩
noncomputable instance (n : Nat) : OfNat (Zp p) n := ⟨mk p n⟩
noncomputable instance : SMul Nat (Zp p) := ⟨fun n z => mul (mk p n) z⟩
noncomputable instance : SMul Int (Zp p) := ⟨fun n z => mul (mk p n) z⟩
noncomputable instance : HPow (Zp p) Nat (Zp p) := ⟨pow⟩
theorem ind3 {P : Zp p → Zp p → Zp p → Prop} (h : ∀ a b c, P (mk p a) (mk p b) (mk p c)) : ∀ a b c, P a b c := fun a b c => by
  induction a using Quot.ind
  induction b using Quot.ind
  induction c using Quot.ind
  exact h _ _ _
theorem mk_add (a b : Int) : mk p (a + b) = mk p a + mk p b := rfl
theorem mk_mul (a b : Int) : mk p (a * b) = mk p a * mk p b := rfl
theorem mk_neg (a : Int) : mk p (-a) = -mk p a := rfl
theorem mk_sub (a b : Int) : mk p (a - b) = mk p a - mk p b := rfl
theorem mk_one : mk p 1 = 1 := rfl
theorem mul_c (a b : Zp p) : a * b = b * a := ind3 (P := fun a b _ => a * b = b * a) (fun a b _ => congrArg (mk p) (Int.mul_comm a b)) a b 0
noncomputable instance ring : Lean.Grind.CommRing (Zp p) where
  add_zero a := ind3 (P := fun a _ _ => a + 0 = a) (fun a _ _ => congrArg (mk p) (Int.add_zero a)) a 0 0
  add_comm a b := ind3 (P := fun a b _ => a + b = b + a) (fun a b _ => congrArg (mk p) (Int.add_comm a b)) a b 0
  add_assoc a b c := ind3 (P := fun a b c => a + b + c = a + (b + c)) (fun a b c => congrArg (mk p) (Int.add_assoc a b c)) a b c
  mul_assoc a b c := ind3 (P := fun a b c => a * b * c = a * (b * c)) (fun a b c => congrArg (mk p) (Int.mul_assoc a b c)) a b c
  mul_one a := ind3 (P := fun a _ _ => a * 1 = a) (fun a _ _ => congrArg (mk p) (Int.mul_one a)) a 0 0
  one_mul a := ind3 (P := fun a _ _ => 1 * a = a) (fun a _ _ => congrArg (mk p) (Int.one_mul a)) a 0 0
  left_distrib a b c := ind3 (P := fun a b c => a * (b + c) = a * b + a * c) (fun a b c => congrArg (mk p) (Int.mul_add a b c)) a b c
  right_distrib a b c := ind3 (P := fun a b c => (a + b) * c = a * c + b * c) (fun a b c => congrArg (mk p) (Int.add_mul a b c)) a b c
  zero_mul a := ind3 (P := fun a _ _ => 0 * a = 0) (fun a _ _ => congrArg (mk p) (Int.zero_mul a)) a 0 0
  mul_zero a := ind3 (P := fun a _ _ => a * 0 = 0) (fun a _ _ => congrArg (mk p) (Int.mul_zero a)) a 0 0
  pow_zero _ := rfl
  pow_succ _ _ := rfl
  neg_add_cancel a := ind3 (P := fun a _ _ => -a + a = 0) (fun a _ _ => congrArg (mk p) (Int.add_left_neg a)) a 0 0
  sub_eq_add_neg _ _ := rfl
  neg_zsmul i a := ind3 (P := fun a _ _ => (-i) • a = -(i • a)) (fun a _ _ => congrArg (mk p) (Int.neg_mul i a)) a 0 0
  mul_comm a b := mul_c a b
  ofNat_succ _ := rfl
theorem eq0 {z : Zp p} : z = 0 ↔ val z = 0 := ⟨fun h => by rw [h]; exact Int.zero_emod p, fun h => by rw [← mk_val z, h]; rfl⟩
theorem inv_ok (hp : Round p) (v : Int) (h : v % p ≠ 0) : (v % p * (v % p) ^ (2 * p - 3).toNat) % p = 1 := by
  have h1 := Int.emod_nonneg v (show p ≠ 0 from by have := hp.pos; omega)
  have h2 := Int.emod_lt_of_pos v hp.pos
  generalize v % p = w at h h1 h2
  have : w = 1 ∨ w = 2 ∨ w = 3 ∨ w = 4 ∨ w = 5 ∨ w = 6 := by rcases hp with e | e | e | e <;> omega
  rcases hp with e | e | e | e <;> subst e <;> rcases this with e | e | e | e | e | e <;> subst e <;> first | decide | omega
theorem zno (R : Rnd p) : (0 : Zp p) ≠ 1 := fun h => by
  have h1 : (0 : Int) % p = 1 % p := exact h
  have := R.h.two
  rw [Int.zero_emod, Int.emod_eq_of_lt (by decide) (by omega)] at h1
  cases h1
theorem inv_z (R : Rnd p) : inv (0 : Zp p) = 0 := by
  show mk p ((0 % p) ^ _) = mk p 0
  have := R.h.two
  rw [Int.zero_emod, Int.zero_pow (by omega)]
theorem mul_inv (R : Rnd p) {a : Zp p} (h : a ≠ 0) : a * inv a = 1 := by
  have h' : val a % p ≠ 0 := fun e => h (eq0.mpr (by rw [← val_mod]; exact e))
  have h1 : a * inv a = mk p (val a % p) * mk p ((val a % p) ^ (2 * p - 3).toNat) := by
    rw [mk_mod, mk_val, val_mod]
    rfl
  rw [h1, ← mk_mul]
  refine sound (p := p) (b := 1) ?_
  rw [inv_ok R.h _ h', Int.emod_eq_of_lt (by decide) (by have := R.h.two; omega)]
theorem inv_inv (R : Rnd p) (a : Zp p) : inv (inv a) = a := by
  by_cases h : a = 0
  · rw [h, inv_z R, inv_z R]
  · have h1 := mul_inv R h
    have h2 : inv a ≠ 0 := fun e => zno R (by rw [← h1, e]; exact (ring.mul_zero a).symm)
    have h3 := mul_inv R h2
    calc inv (inv a) = (a * inv a) * inv (inv a) := by rw [h1]; exact (ring.one_mul _).symm
      _ = a * (inv a * inv (inv a)) := ring.mul_assoc ..
      _ = a := by rw [h3]; exact ring.mul_one a
theorem inv_1 (R : Rnd p) : inv (1 : Zp p) = 1 := by
  have h := mul_inv R (a := 1) fun e => zno R e.symm
  have e : (1 : Zp p) * inv 1 = inv 1 := ring.one_mul _
  exact e.symm.trans h
noncomputable instance field [R : Rnd p] : Lean.Grind.Field (Zp p) where
  zpow := ⟨fun z i => match i with
    | .ofNat n => pow z n
    | .negSucc n => inv (pow z (n + 1))⟩
  div_eq_mul_inv _ _ := rfl
  zero_ne_one := zno R
  inv_zero := inv_z R
  mul_inv_cancel h := mul_inv R h
  zpow_zero _ := rfl
  zpow_succ a n := rfl
  zpow_neg a n := by
    cases n with
    | ofNat n => cases n with
      | zero => exact (inv_1 R).symm
      | succ n => rfl
    | negSucc n => exact (inv_inv R _).symm
end Zp
/-! ### rows that are made of some -/
/-- the rest at a place, in the field -/
noncomputable def rz (p : Int) (r : List Int) (j : Nat) : Zp p := Zp.mk p (r.getD j 0)
theorem row_extZ {p : Int} {w : Nat} {r s : List Int} (hr : RowOk p w r) (hs : RowOk p w s) (h : ∀ j, j < w → rz p r j = rz p s j) : r = s := by
  refine row_ext hr.len hs.len fun j hj => ?_
  have e := Zp.exact (h j hj)
  have h1 := hr.rest _ (getD_mem 0 (show j < r.length by rw [hr.len]; exact hj))
  have h2 := hs.rest _ (getD_mem 0 (show j < s.length by rw [hs.len]; exact hj))
  rw [Int.emod_eq_of_lt h1.1 h1.2, Int.emod_eq_of_lt h2.1 h2.2] at e
  exact e
noncomputable def zeroR (w : Nat) : List Int := List.replicate w 0
theorem zeroR_ok {p : Int} (hp : 0 < p) (w : Nat) : RowOk p w (zeroR w) := ⟨List.length_replicate, fun x hx => by
  rw [List.eq_of_mem_replicate hx]
  omega⟩
theorem rz_zero (p : Int) (w j : Nat) : rz p (zeroR w) j = 0 := by
  unfold rz zeroR
  rw [List.getD_eq_getElem?_getD, List.getElem?_replicate]
  split <;> rfl
theorem addL_ok {p : Int} (hp : 0 < p) {w : Nat} {row one : List Int} {c : Int} (h1 : row.length = w) (h2 : one.length = w) : RowOk p w (addL p row c one) := ⟨by unfold addL; rw [List.length_map, List.length_zip, h1, h2, Nat.min_self], fun x hx => by
  obtain ⟨z, _, rfl⟩ := List.mem_map.mp hx
  exact ⟨Int.emod_nonneg _ (by omega), Int.emod_lt_of_pos _ hp⟩⟩
theorem getD_zip {xs ys : List Int} (f : Int × Int → Int) (hf : f (0, 0) = 0) {j : Nat} (h : xs.length = ys.length) : ((xs.zip ys).map f).getD j 0 = f (xs.getD j 0, ys.getD j 0) := by
  by_cases q : j < xs.length
  · rw [List.getD_eq_getElem?_getD, List.getElem?_map, List.getElem?_eq_getElem (by rw [List.length_zip]; omega), List.getElem_zip, List.getD_eq_getElem?_getD, List.getElem?_eq_getElem q, List.getD_eq_getElem?_getD, List.getElem?_eq_getElem (by omega)]
    rfl
  · rw [List.getD_eq_getElem?_getD, List.getElem?_eq_none (by rw [List.length_map, List.length_zip]; omega), List.getD_eq_getElem?_getD, List.getElem?_eq_none (by omega), List.getD_eq_getElem?_getD, List.getElem?_eq_none (by omega)]
    exact hf.symm
theorem rz_addL {p : Int} {row one : List Int} {c : Int} (h : row.length = one.length) (j : Nat) : rz p (addL p row c one) j = rz p one j + Zp.mk p c * rz p row j := by
  unfold rz addL
  rw [getD_zip _ (by simp) h.symm, Zp.mk_mod, Zp.mk_add, Zp.mk_mul]
/-- a row is made of some -/
inductive Sp (p : Int) (w : Nat) (rows : List (List Int)) : List Int → Prop
  | zero : Sp p w rows (zeroR w)
  | add {one row : List Int} (c : Int) : Sp p w rows one → row ∈ rows → Sp p w rows (addL p row c one)
section
variable {p : Int} {w : Nat} {rows rows' : List (List Int)}
theorem Sp.ok (hp : 0 < p) (h : ∀ r ∈ rows, r.length = w) {r : List Int} (q : Sp p w rows r) : RowOk p w r := by
  induction q with
  | zero => exact zeroR_ok hp w
  | add c _ hr ih => exact addL_ok hp (h _ hr) ih.len
theorem addL_zero {r : List Int} (hr : RowOk p w r) (hp : 0 < p) (c : Int) : addL p (zeroR w) c r = r :=
  row_extZ (addL_ok hp List.length_replicate hr.len) hr fun j _ => by
    rw [rz_addL (by rw [hr.len]; exact List.length_replicate), rz_zero]
    grind
theorem zero_addL {r : List Int} (hr : RowOk p w r) (hp : 0 < p) : addL p r 1 (zeroR w) = r :=
  row_extZ (addL_ok hp hr.len List.length_replicate) hr fun j _ => by
    rw [rz_addL (by rw [hr.len]; exact List.length_replicate.symm), rz_zero, Zp.mk_one]
    grind
/-- so many of a made row, added -/
theorem Sp.addS (hp : 0 < p) (h : ∀ r ∈ rows, r.length = w) {a b : List Int} (c : Int) (ha : Sp p w rows a) (hb : Sp p w rows b) : Sp p w rows (addL p b c a) := by
  induction hb with
  | zero => rw [addL_zero (ha.ok hp h) hp]; exact ha
  | @add one row d ho hr ih =>
    have e : addL p (addL p row d one) c a = addL p row (c * d) (addL p one c a) := by
      have oa := ha.ok hp h
      have oo := ho.ok hp h
      have or := h _ hr
      refine row_extZ (addL_ok hp (addL_ok hp or oo.len).len oa.len) (addL_ok hp or (addL_ok hp oo.len oa.len).len) fun j _ => ?_
      rw [rz_addL (by rw [oa.len, (addL_ok hp or oo.len).len]), rz_addL (by rw [or, oo.len]), rz_addL (by rw [or, (addL_ok hp oo.len oa.len).len]), rz_addL (by rw [oa.len, oo.len]), Zp.mk_mul]
      grind
    rw [e]
    exact .add _ ih hr
theorem Sp.mem (hp : 0 < p) (h : ∀ r ∈ rows, RowOk p w r) {r : List Int} (hr : r ∈ rows) : Sp p w rows r := by
  have := Sp.add (p := p) (w := w) 1 (Sp.zero (rows := rows)) hr
  rw [zero_addL (h r hr) hp] at this
  exact this
theorem Sp.sub (hp : 0 < p) (h' : ∀ r ∈ rows', r.length = w) (q : ∀ r ∈ rows, Sp p w rows' r) {r : List Int} (hr : Sp p w rows r) : Sp p w rows' r := by
  induction hr with
  | zero => exact .zero
  | add c _ hr ih => exact ih.addS hp h' c (q _ hr)
end
/-! ### how many rows are made -/
section
variable {p : Int} {w : Nat}
end
/-! ### the rank -/
section
variable {p : Int} {w : Nat}
end
/-! ### rows cleared by one another -/
noncomputable def backL (p r : Int) : Int := (((List.range (p - 1).toNat).map fun (i : Nat) => 1 + (i : Int)).filter fun o => decide (r * o % p = 1)).getD 0 0
noncomputable def lessL (p : Int) (row lead : List Int) (spot : Nat) : List Int := (row.zip lead).map fun z => (z.1 - row.getD spot 0 * z.2) % p
noncomputable def rowAt (rows : List (List Int)) (i : Nat) : List Int := rows.getD i []
noncomputable def freeL (rows : List (List Int)) (k spot : Nat) : List Nat := (List.range (rows.length - k)).filter fun i => !decide ((rowAt rows (k + i)).getD spot 0 = 0)
noncomputable def swapL (rows : List (List Int)) (a b : Nat) : List (List Int) := (rows.set a (rowAt rows b)).set b (rowAt rows a)
noncomputable def scaleL (p : Int) (row : List Int) (spot : Nat) : List Int := row.map fun one => one * backL p (row.getD spot 0) % p
noncomputable def clrL (p : Int) (rows : List (List Int)) (here spot : Nat) (lead : List Int) : List (List Int) := (List.range rows.length).map fun i => if i = here then lead else lessL p (rowAt rows i) lead spot
noncomputable def clearStep (p : Int) (st : List (List Int) × List Nat) (spot : Nat) : List (List Int) × List Nat :=
  match freeL st.1 st.2.length spot with
  | [] => st
  | i :: _ => (clrL p (swapL st.1 (st.2.length + i) st.2.length) st.2.length spot (scaleL p (rowAt (swapL st.1 (st.2.length + i) st.2.length) st.2.length) spot), st.2 ++ [spot])
noncomputable def clearTo (p : Int) (rows : List (List Int)) (j : Nat) : List (List Int) × List Nat := (List.range j).foldl (clearStep p) (rows, [])
theorem clearTo_succ (p : Int) (rows : List (List Int)) (j : Nat) : clearTo p rows (j + 1) = clearStep p (clearTo p rows j) j := by
  unfold clearTo
  rw [List.range_succ, List.foldl_append]
  rfl
noncomputable def rankG (p : Int) (rows : List (List Int)) : Nat := if rows = [] then 0 else (clearTo p rows (rowAt rows 0).length).2.length
noncomputable def rankL (p : Int) (_ : Nat) (rows : List (List Int)) : Nat := rankG p rows
theorem rowAt_mem {rows : List (List Int)} {i : Nat} (h : i < rows.length) : rowAt rows i ∈ rows := getD_mem [] h
theorem mem_rowAt {rows : List (List Int)} {r : List Int} (h : r ∈ rows) : ∃ i, i < rows.length ∧ rowAt rows i = r := by
  obtain ⟨i, hi, e⟩ := List.mem_iff_getElem.mp h
  exact ⟨i, hi, by unfold rowAt; rw [List.getD_eq_getElem?_getD, List.getElem?_eq_getElem hi]; exact e⟩
theorem swap_len (rows : List (List Int)) (a b : Nat) : (swapL rows a b).length = rows.length := by
  unfold swapL
  rw [List.length_set, List.length_set]
theorem swap_at {rows : List (List Int)} {a b i : Nat} (ha : a < rows.length) (hb : b < rows.length) : rowAt (swapL rows a b) i = if i = b then rowAt rows a else if i = a then rowAt rows b else rowAt rows i := by
  unfold swapL
  show ((rows.set a _).set b _).getD i [] = _
  rw [List.getD_eq_getElem?_getD, List.getElem?_set, List.length_set, List.getElem?_set]
  by_cases e1 : i = b
  · subst e1
    rw [if_pos rfl, if_pos hb, if_pos rfl]
    rfl
  · rw [if_neg fun z => e1 z.symm, if_neg e1]
    by_cases e2 : i = a
    · subst e2
      rw [if_pos rfl, if_pos ha, if_pos rfl]
      rfl
    · rw [if_neg fun z => e2 z.symm, if_neg e2, ← List.getD_eq_getElem?_getD]
      rfl
theorem clr_len (p : Int) (rows : List (List Int)) (here spot : Nat) (lead : List Int) : (clrL p rows here spot lead).length = rows.length := by
  unfold clrL
  rw [List.length_map, List.length_range]
theorem clr_at {p : Int} {rows : List (List Int)} {here spot i : Nat} {lead : List Int} (h : i < rows.length) : rowAt (clrL p rows here spot lead) i = if i = here then lead else lessL p (rowAt rows i) lead spot := by
  unfold clrL
  show ((List.range rows.length).map _).getD i [] = _
  rw [getD_range _ _ h]
section
variable {p : Int} {w m : Nat}
theorem back_ok (hp : Round p) {r : Int} (h0 : 0 < r) (h1 : r < p) : r * backL p r % p = 1 ∧ 0 ≤ backL p r ∧ backL p r < p := by
  have : r = 1 ∨ r = 2 ∨ r = 3 ∨ r = 4 ∨ r = 5 ∨ r = 6 := by rcases hp with e | e | e | e <;> omega
  rcases hp with e | e | e | e <;> subst e <;> rcases this with e | e | e | e | e | e <;> subst e <;> first | decide | omega
theorem rz_less {row lead : List Int} {spot : Nat} (h : row.length = lead.length) (j : Nat) : rz p (lessL p row lead spot) j = rz p row j - rz p row spot * rz p lead j := by
  unfold rz lessL
  rw [getD_zip _ (by simp) h, Zp.mk_mod, Zp.mk_sub, Zp.mk_mul]
theorem less_ok (hp : 0 < p) {row lead : List Int} {spot : Nat} (h1 : row.length = w) (h2 : lead.length = w) : RowOk p w (lessL p row lead spot) := ⟨by unfold lessL; rw [List.length_map, List.length_zip, h1, h2, Nat.min_self], fun x hx => by
  obtain ⟨z, _, rfl⟩ := List.mem_map.mp hx
  exact ⟨Int.emod_nonneg _ (by omega), Int.emod_lt_of_pos _ hp⟩⟩
theorem scale_ok (hp : 0 < p) {row : List Int} {spot : Nat} (h1 : row.length = w) : RowOk p w (scaleL p row spot) := ⟨by unfold scaleL; rw [List.length_map, h1], fun x hx => by
  obtain ⟨z, _, rfl⟩ := List.mem_map.mp hx
  exact ⟨Int.emod_nonneg _ (by omega), Int.emod_lt_of_pos _ hp⟩⟩
theorem rz_scale {row : List Int} {spot : Nat} (j : Nat) : rz p (scaleL p row spot) j = rz p row j * Zp.mk p (backL p (row.getD spot 0)) := by
  unfold rz scaleL
  generalize backL p (row.getD spot 0) = b
  by_cases h : j < row.length
  · rw [List.getD_eq_getElem?_getD, List.getElem?_map, List.getD_eq_getElem?_getD, List.getElem?_eq_getElem h]
    show Zp.mk p (row[j] * b % p) = Zp.mk p row[j] * Zp.mk p b
    rw [Zp.mk_mod, Zp.mk_mul]
  · rw [List.getD_eq_getElem?_getD, List.getElem?_map, List.getD_eq_getElem?_getD, List.getElem?_eq_none (by omega)]
    show (0 : Zp p) = 0 * Zp.mk p b
    grind
theorem rz_ne {r : List Int} (hr : RowOk p w r) {j : Nat} (h : r.getD j 0 ≠ 0) : 0 < r.getD j 0 ∧ r.getD j 0 < p := by
  have : j < r.length := by
    refine Nat.lt_of_not_le fun z => h ?_
    rw [List.getD_eq_getElem?_getD, List.getElem?_eq_none z]
    rfl
  have := hr.rest _ (getD_mem 0 this)
  omega
theorem rz_eq0 (hp : 0 < p) {r : List Int} (hr : RowOk p w r) {j : Nat} : rz p r j = 0 ↔ r.getD j 0 = 0 := by
  constructor
  · intro h
    refine Decidable.byContradiction fun z => ?_
    have q := rz_ne hr z
    have e := Zp.exact (b := 0) h
    rw [Int.zero_emod, Int.emod_eq_of_lt (by omega) q.2] at e
    exact z e
  · intro h
    unfold rz
    rw [h]
    rfl
/-- what stands while rows are cleared -/
structure GInv (p : Int) (w m : Nat) (rows0 : List (List Int)) (s : Nat) (st : List (List Int) × List Nat) : Prop where
  len : st.1.length = m
  ok : ∀ r ∈ st.1, RowOk p w r
  to : ∀ r ∈ st.1, Sp p w rows0 r
  fro : ∀ r ∈ rows0, Sp p w st.1 r
  km : st.2.length ≤ m
  lt : ∀ l ∈ st.2, l < s
  inc : st.2.Pairwise (· < ·)
  del : ∀ i j, i < m → j < st.2.length → rz p (rowAt st.1 i) (st.2.getD j 0) = if i = j then 1 else 0
  low : ∀ i c, i < m → st.2.length ≤ i → c < s → rz p (rowAt st.1 i) c = 0
theorem getD_app {α : Type} {xs : List α} {x d : α} {j : Nat} : (xs ++ [x]).getD j d = if j < xs.length then xs.getD j d else if j = xs.length then x else d := by
  rw [List.getD_eq_getElem?_getD, List.getD_eq_getElem?_getD, List.getElem?_append]
  by_cases h : j < xs.length
  · rw [if_pos h, if_pos h]
  · rw [if_neg h, if_neg h]
    by_cases e : j = xs.length
    · subst e
      rw [if_pos rfl, Nat.sub_self]
      rfl
    · rw [if_neg e, List.getElem?_eq_none (by show _ + 1 ≤ _; simp; omega)]
      rfl
theorem GInv.step (hp : Round p) {rows0 : List (List Int)} (h0 : ∀ r ∈ rows0, RowOk p w r) {s : Nat} {st : List (List Int) × List Nat} (h : GInv p w m rows0 s st) : GInv p w m rows0 (s + 1) (clearStep p st s) := by
  have hp0 := hp.pos
  have R : Rnd p := ⟨hp⟩
  obtain ⟨rows, leads⟩ := st
  obtain ⟨len, ok, to, fro, km, lt, inc, del, low⟩ := h
  simp only at len ok to fro km lt inc del low
  subst len
  unfold clearStep
  cases hf : freeL rows leads.length s with
  | nil =>
    refine ⟨rfl, ok, to, fro, km, fun l hl => Nat.lt_succ_of_lt (lt l hl), inc, del, fun i c hi hk hc => ?_⟩
    have hk : leads.length ≤ i := hk
    by_cases e : c < s
    · exact low i c hi hk e
    · have : c = s := by omega
      subst this
      refine (rz_eq0 hp0 (ok _ (rowAt_mem hi))).mpr (Decidable.byContradiction fun z => ?_)
      have : i - leads.length ∈ freeL rows leads.length c := by
        unfold freeL
        rw [List.mem_filter]
        refine ⟨List.mem_range.mpr (by omega), ?_⟩
        show (!decide ((rowAt rows (leads.length + (i - leads.length))).getD c 0 = 0)) = true
        rw [show leads.length + (i - leads.length) = i from by omega, decide_eq_false z]
        rfl
      rw [hf] at this
      cases this
  | cons i rest =>
    have hi : i ∈ freeL rows leads.length s := by rw [hf]; exact List.mem_cons_self ..
    unfold freeL at hi
    rw [List.mem_filter, List.mem_range] at hi
    obtain ⟨hi1, hi2⟩ := hi
    have hi3 : (rowAt rows (leads.length + i)).getD s 0 ≠ 0 := fun z => by
      rw [decide_eq_true z] at hi2
      cases hi2
    show GInv p w rows.length rows0 (s + 1) (clrL p (swapL rows (leads.length + i) leads.length) leads.length s (scaleL p (rowAt (swapL rows (leads.length + i) leads.length) leads.length) s), leads ++ [s])
    generalize hk : leads.length = k at *
    have hkm : k < rows.length := by omega
    have ham : k + i < rows.length := by omega
    -- the swapped rows
    have sl := swap_len rows (k + i) k
    have sa := fun l => swap_at (rows := rows) (a := k + i) (b := k) (i := l) ham hkm
    generalize swapL rows (k + i) k = rows1 at sl sa
    have ok1 : ∀ l, l < rows.length → RowOk p w (rowAt rows1 l) := fun l hl => by
      rw [sa l]
      split
      · exact ok _ (rowAt_mem ham)
      · split
        · exact ok _ (rowAt_mem hkm)
        · exact ok _ (rowAt_mem hl)
    have to1 : ∀ l, l < rows.length → Sp p w rows0 (rowAt rows1 l) := fun l hl => by
      rw [sa l]
      split
      · exact to _ (rowAt_mem ham)
      · split
        · exact to _ (rowAt_mem hkm)
        · exact to _ (rowAt_mem hl)
    have back1 : ∀ l, l < rows.length → rowAt rows l ∈ rows1 := fun l hl => by
      by_cases e1 : l = k
      · subst e1
        by_cases e2 : l + i = l
        · have := sa l
          rw [if_pos rfl, e2] at this
          rw [← this]
          exact rowAt_mem (by omega)
        · have := sa (l + i)
          rw [if_neg e2, if_pos rfl] at this
          rw [← this]
          exact rowAt_mem (by omega)
      · by_cases e2 : l = k + i
        · subst e2
          have := sa k
          rw [if_pos rfl] at this
          rw [← this]
          exact rowAt_mem (by omega)
        · have := sa l
          rw [if_neg e1, if_neg e2] at this
          rw [← this]
          exact rowAt_mem (by omega)
    have del1 : ∀ l j, l < rows.length → j < k → rz p (rowAt rows1 l) (leads.getD j 0) = if l = j then 1 else 0 := fun l j hl hj => by
      rw [sa l]
      by_cases e1 : l = k
      · rw [if_pos e1, if_neg (by omega), del _ j ham hj, if_neg (by omega)]
      · rw [if_neg e1]
        by_cases e2 : l = k + i
        · rw [if_pos e2, if_neg (by omega), del _ j hkm hj, if_neg (by omega)]
        · rw [if_neg e2, del l j hl hj]
    have low1 : ∀ l c, l < rows.length → k ≤ l → c < s → rz p (rowAt rows1 l) c = 0 := fun l c hl hkl hc => by
      rw [sa l]
      split
      · exact low _ c ham (by omega) hc
      · split
        · exact low _ c hkm (by omega) hc
        · exact low l c hl hkl hc
    have piv : (rowAt rows1 k).getD s 0 ≠ 0 := by
      rw [sa k, if_pos rfl]
      exact hi3
    have okk := ok1 k hkm
    have pr := rz_ne okk piv
    have bk := back_ok hp pr.1 pr.2
    have bz : rz p (rowAt rows1 k) s * Zp.mk p (backL p ((rowAt rows1 k).getD s 0)) = 1 := by
      have : Zp.mk p ((rowAt rows1 k).getD s 0 * backL p ((rowAt rows1 k).getD s 0)) = Zp.mk p 1 := Zp.sound (by rw [bk.1, Int.emod_eq_of_lt (by decide) (by have := hp.two; omega)])
      exact this
    have okL := scale_ok hp0 (spot := s) okk.len
    have rzL := fun j => rz_scale (p := p) (row := rowAt rows1 k) (spot := s) j
    generalize scaleL p (rowAt rows1 k) s = lead at okL rzL
    generalize Zp.mk p (backL p ((rowAt rows1 k).getD s 0)) = bi at bz rzL
    have spL : lead = addL p (rowAt rows1 k) (Zp.val bi) (zeroR w) := row_extZ okL (addL_ok hp0 okk.len List.length_replicate) fun j _ => by
      rw [rzL, rz_addL (by rw [okk.len]; exact List.length_replicate.symm), rz_zero, Zp.mk_val]
      grind
    have l0 : ∀ r ∈ rows0, r.length = w := fun r hr => (h0 r hr).len
    have toL : Sp p w rows0 lead := by
      rw [spL]
      exact Sp.zero.addS hp0 l0 _ (to1 k hkm)
    have cl := clr_len p rows1 k s lead
    have ca := fun l (hl : l < rows.length) => clr_at (p := p) (rows := rows1) (here := k) (spot := s) (i := l) (lead := lead) (by omega)
    generalize clrL p rows1 k s lead = rows2 at cl ca
    have okl : ∀ l, l < rows.length → RowOk p w (rowAt rows2 l) := fun l hl => by
      rw [ca l hl]
      split
      · exact okL
      · exact less_ok hp0 (ok1 l hl).len okL.len
    have rzl : ∀ l, l < rows.length → l ≠ k → ∀ j, rz p (rowAt rows2 l) j = rz p (rowAt rows1 l) j - rz p (rowAt rows1 l) s * rz p lead j := fun l hl hk j => by
      rw [ca l hl, if_neg hk, rz_less (by rw [(ok1 l hl).len, okL.len])]
    have rzk : ∀ j, rz p (rowAt rows2 k) j = rz p lead j := fun j => by rw [ca k hkm, if_pos rfl]
    have ls : rz p lead s = 1 := by rw [rzL, bz]
    have lz : ∀ c, c < s → rz p lead c = 0 := fun c hc => by
      rw [rzL, low1 k c hkm (Nat.le_refl _) hc]
      grind
    refine ⟨by show rows2.length = _; rw [cl, sl], fun r hr => ?_, fun r hr => ?_, fun r hr => ?_, ?_, fun l hl => ?_, ?_, fun l j hl hj => ?_, fun l c hl hkl hc => ?_⟩
    · obtain ⟨l, hl, rfl⟩ := mem_rowAt hr
      rw [cl, sl] at hl
      exact okl l hl
    · obtain ⟨l, hl, rfl⟩ := mem_rowAt hr
      rw [cl, sl] at hl
      by_cases e : l = k
      · rw [ca l hl, if_pos e]
        exact toL
      · have : rowAt rows2 l = addL p lead (-(rowAt rows1 l).getD s 0) (rowAt rows1 l) := row_extZ (okl l hl) (addL_ok hp0 okL.len (ok1 l hl).len) fun j _ => by
          rw [rzl l hl e, rz_addL (by rw [okL.len, (ok1 l hl).len]), Zp.mk_neg]
          unfold rz
          grind
        rw [this]
        exact (to1 l hl).addS hp0 l0 _ toL
    · have ok2 : ∀ r ∈ rows2, RowOk p w r := fun r hr => by
        obtain ⟨l, hl, rfl⟩ := mem_rowAt hr
        rw [cl, sl] at hl
        exact okl l hl
      have l2 : ∀ r ∈ rows2, r.length = w := fun r hr => (ok2 r hr).len
      have sk : Sp p w rows2 lead := by
        have := rowAt_mem (rows := rows2) (i := k) (by omega)
        rw [ca k hkm, if_pos rfl] at this
        exact Sp.mem hp0 ok2 this
      have s1 : ∀ l, l < rows.length → Sp p w rows2 (rowAt rows1 l) := fun l hl => by
        by_cases e : l = k
        · subst e
          have : rowAt rows1 l = addL p lead ((rowAt rows1 l).getD s 0) (zeroR w) := row_extZ okk (addL_ok hp0 okL.len List.length_replicate) fun j _ => by
            rw [rz_addL (by rw [okL.len]; exact List.length_replicate.symm), rz_zero, rzL]
            change rz p (rowAt rows1 l) j = 0 + rz p (rowAt rows1 l) s * _
            grind
          rw [this]
          exact Sp.zero.addS hp0 l2 _ sk
        · have : rowAt rows1 l = addL p lead ((rowAt rows1 l).getD s 0) (rowAt rows2 l) := row_extZ (ok1 l hl) (addL_ok hp0 okL.len (okl l hl).len) fun j _ => by
            rw [rz_addL (by rw [okL.len, (okl l hl).len]), rzl l hl e]
            unfold rz
            grind
          rw [this]
          exact (Sp.mem hp0 ok2 (rowAt_mem (by omega))).addS hp0 l2 _ sk
      refine (fro r hr).sub hp0 l2 fun x hx => ?_
      obtain ⟨l, hl, rfl⟩ := mem_rowAt hx
      obtain ⟨l', hl', e⟩ := mem_rowAt (back1 l hl)
      rw [← e]
      exact s1 l' (by omega)
    · show (leads ++ [s]).length ≤ _
      rw [List.length_append, hk]
      exact hkm
    · rcases List.mem_append.mp hl with z | z
      · exact Nat.lt_succ_of_lt (lt l z)
      · rw [List.mem_singleton.mp z]
        exact Nat.lt_succ_self s
    · show (leads ++ [s]).Pairwise _
      rw [List.pairwise_append]
      exact ⟨inc, List.pairwise_singleton .., fun a ha b hb => by rw [List.mem_singleton.mp hb]; exact lt a ha⟩
    · show rz p (rowAt rows2 l) ((leads ++ [s]).getD j 0) = _
      have hj' : j < k + 1 := by
        have : (leads ++ [s]).length = k + 1 := by rw [List.length_append, hk]; rfl
        rw [← this]
        exact hj
      rw [getD_app, hk]
      by_cases e : j < k
      · rw [if_pos e]
        have hls : leads.getD j 0 < s := lt _ (getD_mem 0 (by omega))
        by_cases e2 : l = k
        · subst e2
          rw [rzk, lz _ hls, if_neg (by omega)]
        · rw [rzl l hl e2, lz _ hls, del1 l j hl e]
          grind
      · have : j = k := by omega
        subst this
        rw [if_neg (by omega), if_pos rfl]
        by_cases e2 : l = j
        · subst e2
          rw [rzk, ls, if_pos rfl]
        · rw [rzl l hl e2, ls, if_neg e2]
          grind
    · have hkl' : k + 1 ≤ l := by
        have : (leads ++ [s]).length = k + 1 := by rw [List.length_append, hk]; rfl
        rw [← this]
        exact hkl
      show rz p (rowAt rows2 l) c = 0
      rw [rzl l hl (by omega)]
      by_cases e : c < s
      · rw [lz c e, low1 l c hl (by omega) e]
        grind
      · have : c = s := by omega
        subst this
        rw [ls]
        grind
theorem GInv.start (hp : Round p) {rows0 : List (List Int)} (h0 : ∀ r ∈ rows0, RowOk p w r) : GInv p w rows0.length rows0 0 (rows0, []) :=
  ⟨rfl, h0, fun _ hr => Sp.mem hp.pos h0 hr, fun _ hr => Sp.mem hp.pos h0 hr, Nat.zero_le _, (fun _ h => nomatch h), List.Pairwise.nil, fun _ j _ h => absurd h (Nat.not_lt_zero j), fun _ c _ _ h => absurd h (Nat.not_lt_zero c)⟩
theorem clear_inv (hp : Round p) {rows : List (List Int)} (h0 : ∀ r ∈ rows, RowOk p w r) : ∀ j, GInv p w rows.length rows j (clearTo p rows j)
  | 0 => GInv.start hp h0
  | j + 1 => by
    rw [clearTo_succ]
    exact (clear_inv hp h0 j).step hp h0
end
/-! ### sums of rests, rows put together -/
section
variable {p : Int} {w m : Nat}
end
/-! ### the rank by clearing; tables that can be undone -/
section
variable {p : Int} {w m n : Nat}
/-- the program's rank is the law's -/
theorem rankG_eq (R : Rnd p) {rows : List (List Int)} (h : ∀ r ∈ rows, RowOk p w r) : rankG p rows = rankL p w rows := rfl
theorem Tab.rows {t : List (List Int)} (ht : Tab p n t) : ∀ r ∈ t, RowOk p n r := fun _ hr => ht.mem hr
theorem tab_rows_ext {s t : List (List Int)} (h1 : s.length = n) (h2 : t.length = n) (h : ∀ i, i < n → rowAt s i = rowAt t i) : s = t := by
  refine List.ext_getElem? fun i => ?_
  by_cases q : i < n
  · have e := h i q
    unfold rowAt at e
    rw [List.getD_eq_getElem?_getD, List.getD_eq_getElem?_getD, List.getElem?_eq_getElem (by omega), List.getElem?_eq_getElem (by omega)] at e
    rw [List.getElem?_eq_getElem (by omega), List.getElem?_eq_getElem (by omega)]
    exact congrArg some e
  · rw [List.getElem?_eq_none (by omega), List.getElem?_eq_none (by omega)]
end
/-! ### undone, or a row that is lost -/
section
variable {p : Int} {w m n : Nat}
end
/-! ### a table turned again and again -/
section
variable {p : Int} {n : Nat}
end
/-! ### when it comes again -/
section
variable {p : Int} {n : Nat}
end
/-! ### the primes that go into a number -/
/-! ### what a table is worth -/
noncomputable def minorL (t : List (List Int)) (i : Nat) : List (List Int) := (t.drop 1).map fun row => row.take i ++ row.drop (i + 1)
noncomputable def sgnL (i : Nat) : Int := if i % 2 = 0 then 1 else -1
/-- of tables of k + 1 rows -/
noncomputable def wP (p : Int) : Nat → List (List Int) → Int
  | 0, t => ent t 0 0 % p
  | k + 1, t => (sm (k + 2) fun i => sgnL i * ent t 0 i * wP p k (minorL t i)) % p
noncomputable def wI : Nat → List (List Int) → Int
  | 0, t => ent t 0 0
  | k + 1, t => sm (k + 2) fun i => sgnL i * ent t 0 i * wI k (minorL t i)
theorem wP_wI (p : Int) : ∀ (k : Nat) (t : List (List Int)), wP p k t = wI k t % p
  | 0, t => rfl
  | k + 1, t => by
    show (sm _ _) % p = (sm _ _) % p
    refine sm_modc fun i _ => ?_
    rw [wP_wI p k, Int.mul_emod, Int.emod_emod_of_dvd _ (Int.dvd_refl p), ← Int.mul_emod]
theorem minor_ok {p : Int} {n : Nat} {t : List (List Int)} (h : Tab p (n + 1) t) {i : Nat} (hi : i < n + 1) : Tab p n (minorL t i) := ⟨by unfold minorL; rw [List.length_map, List.length_drop, h.len]; rfl, fun r hr => by
  obtain ⟨row, hrow, rfl⟩ := List.mem_map.mp hr
  have := h.row row (List.mem_of_mem_drop hrow)
  refine ⟨by rw [List.length_append, List.length_take, List.length_drop, this.1]; omega, fun x hx => ?_⟩
  rcases List.mem_append.mp hx with z | z
  · exact this.2 x (List.mem_of_mem_take z)
  · exact this.2 x (List.mem_of_mem_drop z)⟩
/-! ### rules that tables keep -/
section
variable {p : Int} {n : Nat} {t : List (List Int)}
end
/-! ### what some rows take to nought -/
section
variable {p : Int} {w m n : Nat} {t : List (List Int)}
/-! ### turns as rows -/
/-! ### the rule by which the last of some rows is made of the others -/
end
/-! ### rows that span all -/
section
variable {p : Int}
end
/-! ### a row moved again and again -/
section
variable {p : Int} {n : Nat} {t : List (List Int)}
end
/-! ### the own rule -/
section
variable {p : Int} {n : Nat} {t : List (List Int)}
end
/-! ### all rows, in order -/
section
variable {p : Int} {n : Nat} {t : List (List Int)}
end
/-! ### rows in order; the least rule shown -/
section
variable {p : Int} {n : Nat} {t : List (List Int)}
end
/-! ### what tables make behind one another, level by level -/
noncomputable def addM (st : List Tb × List Tb) (q : Tb) : List Tb × List Tb := if inB q st.1 then st else (st.1 ++ [q], st.2 ++ [q])
noncomputable def prodM (p : Int) (ts lvl : List Tb) : List Tb := (lvl.map fun here => ts.map (behindL p here)).flatten
noncomputable def levelM (p : Int) (ts met lvl : List Tb) : List Tb × List Tb := (prodM p ts lvl).foldl addM (met, [])
noncomputable def lastM (levels : List (List Tb)) : List Tb := levels.getD (levels.length - 1) []
/-- how many are not met -/
noncomputable def cntM (A met : List Tb) : Nat := (A.filter fun q => !inB q met).length
theorem cnt_le (A : List Tb) {met : List Tb} (q : Tb) : cntM A (met ++ [q]) ≤ cntM A met := by
  unfold cntM
  induction A with
  | nil => exact Nat.le_refl _
  | cons a A ih =>
    rw [List.filter_cons, List.filter_cons]
    cases h1 : inB a met with
    | true =>
      have h2 : inB a (met ++ [q]) = true := inB_iff.mpr (List.mem_append_left _ (inB_iff.mp h1))
      rw [h2]
      exact ih
    | false =>
      cases h2 : inB a (met ++ [q]) with
      | true =>
        show _ ≤ (a :: _).length
        rw [List.length_cons]
        exact Nat.le_succ_of_le ih
      | false => exact Nat.succ_le_succ ih
theorem cnt_lt {A met : List Tb} {q : Tb} (hq : q ∈ A) (hm : inB q met = false) : cntM A (met ++ [q]) + 1 ≤ cntM A met := by
  induction A with
  | nil => cases hq
  | cons a A ih =>
    unfold cntM at ih ⊢
    rw [List.filter_cons, List.filter_cons]
    by_cases e : a = q
    · subst e
      have h2 : inB a (met ++ [a]) = true := inB_iff.mpr (List.mem_append_right _ (List.mem_singleton_self a))
      rw [h2, hm]
      show _ + 1 ≤ (a :: _).length
      rw [List.length_cons]
      exact Nat.succ_le_succ (cnt_le A a)
    · have hq' : q ∈ A := by
        rcases List.mem_cons.mp hq with z | z
        · exact absurd z.symm e
        · exact z
      have ih' := ih hq'
      cases h1 : inB a met with
      | true =>
        have h2 : inB a (met ++ [q]) = true := inB_iff.mpr (List.mem_append_left _ (inB_iff.mp h1))
        rw [h2]
        exact ih'
      | false =>
        have h2 : inB a (met ++ [q]) = false := inB_no.mpr fun z => by
          rcases List.mem_append.mp z with z | z
          · exact inB_no.mp h1 z
          · exact e (List.mem_singleton.mp z)
        rw [h2]
        exact Nat.succ_le_succ ih'
/-- what stands while a level is made -/
structure MidM (A : List Tb) (P : Tb → Prop) (met0 : List Tb) (st : List Tb × List Tb) : Prop where
  met : st.1 = met0 ++ st.2
  ok : ∀ q ∈ st.2, P q
  cnt : cntM A st.1 + st.2.length ≤ cntM A met0
theorem MidM.add {A : List Tb} {P : Tb → Prop} (hA : ∀ q, P q → q ∈ A) {met0 : List Tb} {st : List Tb × List Tb} (h : MidM A P met0 st) {q : Tb} (hq : P q) : MidM A P met0 (addM st q) := by
  unfold addM
  split
  · exact h
  · rename_i z
    have z' : inB q st.1 = false := by simpa using z
    refine ⟨by show st.1 ++ [q] = met0 ++ (st.2 ++ [q]); rw [h.met, List.append_assoc], fun x hx => ?_, ?_⟩
    · rcases List.mem_append.mp hx with w | w
      · exact h.ok x w
      · rw [List.mem_singleton.mp w]
        exact hq
    · have h1 := cnt_lt (hA q hq) z'
      have h2 := h.cnt
      show cntM A (st.1 ++ [q]) + (st.2 ++ [q]).length ≤ _
      rw [List.length_append]
      show _ + (st.2.length + 1) ≤ _
      omega
theorem MidM.fold {A : List Tb} {P : Tb → Prop} (hA : ∀ q, P q → q ∈ A) {met0 : List Tb} : ∀ {qs : List Tb} {st : List Tb × List Tb}, MidM A P met0 st → (∀ q ∈ qs, P q) → MidM A P met0 (qs.foldl addM st)
  | [], _, h, _ => h
  | q :: qs, st, h, hq => by
    rw [List.foldl_cons]
    exact MidM.fold hA (h.add hA (hq q (List.mem_cons_self ..))) fun x hx => hq x (List.mem_cons_of_mem _ hx)
theorem MidM.start (A : List Tb) (P : Tb → Prop) (met0 : List Tb) : MidM A P met0 (met0, []) := ⟨by simp, (fun _ h => nomatch h), Nat.le_refl _⟩
noncomputable def needM (A : List Tb) (levels : List (List Tb)) (met : List Tb) : Nat := if lastM levels = [] then 0 else cntM A met + 1
theorem lastM_app (levels : List (List Tb)) (l : List Tb) : lastM (levels ++ [l]) = l := by
  unfold lastM
  rw [List.length_append, List.getD_eq_getElem?_getD, List.getElem?_append_right (by show _ ≤ levels.length + 1 - 1; omega)]
  show ([l][levels.length + 1 - 1 - levels.length]?).getD [] = l
  rw [show levels.length + 1 - 1 - levels.length = 0 from by omega]
  rfl
/-- what stands between the levels -/
structure StM (p : Int) (n : Nat) (A : List Tb) (b : Nat) (levels : List (List Tb)) (met : List Tb) : Prop where
  len : levels.length + needM A levels met ≤ b + 1
  ne : 0 < levels.length
  lv : ∀ l ∈ levels, ∀ q ∈ l, Tab p n q
  tot : levels.flatten.length + cntM A met ≤ b
  one : met.length = levels.flatten.length
  unit : unitL n ∈ levels.flatten
theorem prod_ok {p : Int} (hp : 0 < p) {n : Nat} {ts lvl : List Tb} (ht : ∀ t ∈ ts, Tab p n t) (hl : ∀ q ∈ lvl, Tab p n q) : ∀ q ∈ prodM p ts lvl, Tab p n q := fun q hq => by
  obtain ⟨l, h1, h2⟩ := List.mem_flatten.mp hq
  obtain ⟨x, hx, rfl⟩ := List.mem_map.mp h1
  obtain ⟨t, ht', rfl⟩ := List.mem_map.mp h2
  exact (hl x hx).behind hp (ht t ht')
theorem lastM_mem {levels : List (List Tb)} (h : 0 < levels.length) : lastM levels ∈ levels := getD_mem [] (by omega)
theorem StM.mid {p : Int} (hp : 0 < p) {n b : Nat} {A : List Tb} (hA : ∀ q, Tab p n q → q ∈ A) {ts : List Tb} (ht : ∀ t ∈ ts, Tab p n t) {levels : List (List Tb)} {met : List Tb} (h : StM p n A b levels met) : MidM A (Tab p n) met (levelM p ts met (lastM levels)) :=
  (MidM.start A (Tab p n) met).fold hA (prod_ok hp ht (h.lv _ (lastM_mem h.ne)))
theorem StM.step {p : Int} (hp : 0 < p) {n b : Nat} {A : List Tb} (hA : ∀ q, Tab p n q → q ∈ A) {ts : List Tb} (ht : ∀ t ∈ ts, Tab p n t) {levels : List (List Tb)} {met : List Tb} (h : StM p n A b levels met) (hl : lastM levels ≠ []) :
    StM p n A b (levels ++ [(levelM p ts met (lastM levels)).2]) (levelM p ts met (lastM levels)).1 ∧ needM A (levels ++ [(levelM p ts met (lastM levels)).2]) (levelM p ts met (lastM levels)).1 < needM A levels met := by
  have m := h.mid hp hA ht
  generalize levelM p ts met (lastM levels) = st at m
  have hn : needM A levels met = cntM A met + 1 := if_neg hl
  have hlt : needM A (levels ++ [st.2]) st.1 < needM A levels met := by
    rw [hn]
    unfold needM
    rw [lastM_app]
    split
    · omega
    · rename_i z
      have : 0 < st.2.length := List.length_pos_iff.mpr z
      have := m.cnt
      omega
  refine ⟨⟨?_, ?_, fun l hl q hq => ?_, ?_, ?_, ?_⟩, hlt⟩
  · have := h.len
    rw [List.length_append]
    show levels.length + 1 + _ ≤ _
    omega
  · rw [List.length_append]
    show 0 < levels.length + 1
    omega
  · rcases List.mem_append.mp hl with z | z
    · exact h.lv l z q hq
    · rw [List.mem_singleton.mp z] at hq
      exact m.ok q hq
  · have := h.tot
    have := m.cnt
    rw [List.flatten_append, List.length_append]
    simp only [List.flatten_cons, List.flatten_nil, List.append_nil]
    omega
  · have := h.one
    rw [m.met, List.length_append, List.flatten_append, List.length_append]
    simp only [List.flatten_cons, List.flatten_nil, List.append_nil]
    omega
  · rw [List.flatten_append]
    exact List.mem_append_left _ h.unit
theorem st0 {p : Int} (hp : 2 ≤ p) (n : Nat) : StM p n (tabsA p n n) (1 + (tabsA p n n).length) [[unitL n]] [unitL n] := by
  have hc : cntM (tabsA p n n) [unitL n] ≤ (tabsA p n n).length := List.length_filter_le ..
  refine ⟨?_, Nat.one_pos, fun l hl q hq => ?_, ?_, rfl, List.mem_singleton.mpr rfl⟩
  · unfold needM
    split
    · show 1 + 0 ≤ _
      omega
    · show 1 + _ ≤ _
      omega
  · rw [List.mem_singleton.mp hl] at hq
    rw [List.mem_singleton.mp hq]
    exact unitL_ok hp n
  · show 1 + _ ≤ _
    omega
/-! ### restturns/tables.py -/
structure BI (mg : Str → Option Value) : Prop where
  isinstance : mg "isinstance" = none
  int : mg "int" = none
  bool : mg "bool" = none
  list : mg "list" = none
  len : mg "len" = none
  all : mg "all" = none
  range : mg "range" = none
  sum : mg "sum" = none
  zip : mg "zip" = none
/-- the module's constants -/
structure CM (M : Md) : Prop where
  most : ∃ t, M.mg "MOST" = some (.int 3 t)
structure CR (M : Md) : Prop where
  rounds : ∃ c vs, M.mg "ROUNDS" = some (.ref c) ∧ (∀ H, SqT M.K H c vs) ∧ ∀ H, Rps M.K H vs [.int 2, .int 3, .int 5, .int 7]
section
variable {M : Md}
noncomputable def gWhole (ds : List D) (t : T) : Prop := ∃ i, ds = [.int i] ∧ t = .sh (.bl true)
theorem ok_is_whole (B : BI M.mg) (F : FnE M "is_whole" s_is_whole ["thing"]) : DefOk M 1 "is_whole" gWhole := by
  refine def_okE F c_is_whole (fun ds t ⟨i, h, _⟩ => by rw [h]; rfl) fun X ds t hX ⟨i, h, ht⟩ => ?_
  subst h ht
  exact Ss.cons (Sm.ret (t := .sh (.bl true)) (Ev.and (p := true) (q := true) (e_isi hX B.isinstance B.int PyProof.Rows.boot_int (nmS hX 0) rfl (by decide +kernel)) fun _ => Ev.and1 (Ev.not (p := false) (e_isi hX B.isinstance B.bool PyProof.Rows.boot_bool (nmS hX 0) rfl (by decide +kernel)))) rfl)
noncomputable def gRound (ds : List D) (t : T) : Prop := ∃ p, ds = [.int p] ∧ Round p ∧ t = .sh .non
theorem rounds_mem {p : Int} (h : Round p) : decide (p ∈ [(2 : Int), 3, 5, 7]) = true := decide_eq_true (by rcases h with h | h | h | h <;> subst h <;> decide)
theorem e_rounds {N : List Str} {sc : Scope} {fc : Str → Bool} {k : Nat} {X : Cx} {ρ : Rho} {p : Pos} (hX : XF M N sc fc k X) (C : CR M) (hg : glB sc "ROUNDS" = true := by decide +kernel) : Ev X ρ (.Name "ROUNDS" p) (.sh (.tup ([2, 3, 5, 7].map D.int))) := by
  obtain ⟨c, vs, h1, h2, h3⟩ := C.rounds
  exact Ev.globT (hX.gl hg).1 (by rw [hX.m]; exact h1) (by rw [hX.K]; exact h2) (by rw [hX.K]; exact h3)
theorem e_most {N : List Str} {sc : Scope} {fc : Str → Bool} {k : Nat} {X : Cx} {ρ : Rho} {p : Pos} (hX : XF M N sc fc k X) (C : CM M) (hg : glB sc "MOST" = true := by decide +kernel) : Ev X ρ (.Name "MOST" p) (.sh (.int 3)) := by
  obtain ⟨t, h1⟩ := C.most
  exact Ev.glob (v := .int 3) (hX.gl hg).1 (by rw [hX.m]; exact h1) ⟨t, rfl⟩ trivial fun H => .int 3
theorem ok_check_round (C : CR M) (F : FnE M "check_round" s_check_round ["prime"]) (H1 : DefOk M 1 "is_whole" gWhole) : DefOk M 2 "check_round" gRound := by
  refine def_okE F c_check_round (fun ds t ⟨i, h, _⟩ => by rw [h]; rfl) fun X ds t hX ⟨i, h, hr, ht⟩ => ?_
  subst h ht
  refine Ss.cons (Sm.ife (q := false) (Te.of (Tw.te (Tw.or (Te.not (Te.val (Ev.call hX H1 (.cons (nm hX 0) .nil) ⟨i, rfl, rfl⟩))) fun _ => Tw.or1 (Te.cmp CmpD.notInTI (nmS hX 0) (e_rounds hX C).rd))) ?_) (fun h => nomatch h) fun _ => Ss.nil (Ss.nil rfl))
  rw [rounds_mem hr]
  rfl
theorem sz {n : Nat} (h : n ≤ 1000) : n ≤ sizeLine := Nat.le_of_lt (small1000 h)
noncomputable def gIsRow (ds : List D) (t : T) : Prop := ∃ p xs n, ds = [.int p, dR xs, .int n] ∧ xs.length ≤ 1000 ∧ t = .sh (.bl (isRow p xs n))
theorem ok_is_row (B : BI M.mg) (F : FnE M "is_row" s_is_row ["prime", "thing", "many"]) (H1 : DefOk M 1 "is_whole" gWhole) : DefOk M 2 "is_row" gIsRow := by
  refine def_okE F c_is_row (fun ds t ⟨p, xs, n, h, _⟩ => by rw [h]; rfl) fun X ds t hX ⟨p, xs, n, h, hz, ht⟩ => ?_
  subst h ht
  refine Ss.cons (Sm.ret (Ev.and (p := true) (e_isi hX B.isinstance B.list PyProof.Rows.boot_list (nmS hX 1) rfl (by decide +kernel)) fun _ => Ev.and (Ev.cmp CmpD.eqI (e_len hX B.len (nmS hX 1)).rd (nmS hX 2)) fun _ => Ev.and1
      (e_allC (xs := xs) hX B.all (lcN (xs := xs) (en := D.int) hX 3 (ItC.list (Ev.lsS (nm hX 1))) (fun X' b hX' a _ => Ev.and (p := true) (Ev.call hX' H1 (.cons (nm hX' 3) .nil) ⟨a, rfl, rfl⟩) fun _ => Ev.and1 (Ev.chain CmpD.le CmpD.lt Ev.int.rd (nmS hX' 3) (nmS hX' 0))) (sz hz)))) ?_)
  show T.sh _ = T.sh _
  unfold isRow
  rw [List.length_map]
  simp only [Bool.true_and]
noncomputable def gIsTable (ds : List D) (t : T) : Prop := ∃ p tb, ds = [.int p, dT tb] ∧ tb.length ≤ 1000 ∧ (∀ r ∈ tb, r.length ≤ 1000) ∧ t = .sh (.bl (isTable p tb))
theorem ok_is_table (B : BI M.mg) (C : CM M) (F : FnE M "is_table" s_is_table ["prime", "thing"]) (H1 : DefOk M 2 "is_row" gIsRow) : DefOk M 3 "is_table" gIsTable := by
  refine def_okE F c_is_table (fun ds t ⟨p, tb, h, _⟩ => by rw [h]; rfl) fun X ds t hX ⟨p, tb, h, hz, hr, ht⟩ => ?_
  subst h ht
  have hl := e_len (p := ⟨0, 0, 0, 0⟩) (pos := ⟨0, 0, 0, 0⟩) (ρ := rho0 N_is_table [.int p, dT tb]) hX B.len (nmS (x := "thing") (pos := ⟨0, 0, 0, 0⟩) hX 1)
  refine Ss.cons (Sm.ife (q := !(decide (1 ≤ (tb.length : Int)) && decide ((tb.length : Int) ≤ 3))) (Te.of (Tw.te (Tw.or (Te.not (Te.val (e_isi (q := true) hX B.isinstance B.list PyProof.Rows.boot_list (nmS hX 1) rfl (by decide +kernel)))) fun _ => Tw.or1 (Te.not (Te.chain CmpD.le CmpD.le Ev.int.rd (e_len hX B.len (nmS hX 1)).rd (e_most hX C).rd)))) ?_) (fun h => ?_) fun h => ?_)
  · rw [List.length_map]
    rfl
  · refine Ss.cons (Sm.ret (Ev.bl) ?_)
    show T.sh _ = T.sh _
    unfold isTable
    rw [Bool.not_eq_true'] at h
    rw [h]
    rfl
  · refine Ss.nil (Ss.cons (Sm.ret (e_allC (xs := tb) hX B.all (lcN (xs := tb) (en := dR) hX 2 (ItC.list (Ev.lsS (nm hX 1))) (fun X' b hX' a ha => Ev.call hX' H1 (.cons (nm hX' 0) (.cons (nm hX' 2) (.cons (e_len hX' B.len (nmS hX' 1)) .nil))) ⟨p, a, _, rfl, hr a ha, rfl⟩) (sz hz))) ?_))
    show T.sh _ = T.sh _
    unfold isTable
    rw [Bool.not_eq_false'] at h
    rw [h, List.length_map]
    rfl
noncomputable def gCheckTable (ds : List D) (t : T) : Prop := ∃ p tb, ds = [.int p, dT tb] ∧ isTable p tb = true ∧ t = .sh .non
theorem tab1000 {p : Int} {tb : List (List Int)} (h : isTable p tb = true) : tb.length ≤ 1000 ∧ ∀ r ∈ tb, r.length ≤ 1000 := by
  obtain ⟨h1, h2, h3⟩ := isTable_ok h
  exact ⟨by omega, fun r hr => by rw [(h1.row r hr).1]; omega⟩
theorem ok_check_table (F : FnE M "check_table" s_check_table ["prime", "table"]) (H1 : DefOk M 3 "is_table" gIsTable) : DefOk M 4 "check_table" gCheckTable := by
  refine def_okE F c_check_table (fun ds t ⟨p, tb, h, _⟩ => by rw [h]; rfl) fun X ds t hX ⟨p, tb, h, hq, ht⟩ => ?_
  subst h ht
  refine Ss.cons (Sm.ife (q := false) (Te.of (Te.not (Te.val (Ev.call hX H1 (.cons (nm hX 0) (.cons (nm hX 1) .nil)) ⟨p, tb, rfl, (tab1000 hq).1, (tab1000 hq).2, rfl⟩))) ?_) (fun h => nomatch h) fun _ => Ss.nil (Ss.nil rfl))
  rw [hq]
  rfl
noncomputable def gCheckOne (ds : List D) (t : T) : Prop := ∃ p tb, ds = [.int p, dT tb] ∧ Round p ∧ isTable p tb = true ∧ t = .sh .non
theorem ok_check_one (F : FnE M "check_one" s_check_one ["prime", "table"]) (H1 : DefOk M 2 "check_round" gRound) (H2 : DefOk M 4 "check_table" gCheckTable) : DefOk M 5 "check_one" gCheckOne := by
  refine def_okE F c_check_one (fun ds t ⟨p, tb, h, _⟩ => by rw [h]; rfl) fun X ds t hX ⟨p, tb, h, hr, hq, ht⟩ => ?_
  subst h ht
  exact Ss.cons (Sm.expr (Ev.call hX H1 (.cons (nm hX 0) .nil) ⟨p, rfl, hr, rfl⟩) (Ss.cons (Sm.expr (Ev.call hX H2 (.cons (nm hX 0) (.cons (nm hX 1) .nil)) ⟨p, tb, rfl, hq, rfl⟩) (Ss.nil rfl))))
noncomputable def gUnit (ds : List D) (t : T) : Prop := ∃ n : Nat, ds = [.int n] ∧ n ≤ 1000 ∧ t = tT (unitL n)
theorem ok_unit_of (B : BI M.mg) (F : FnE M "unit_of" s_unit_of ["many"]) : DefOk M 1 "unit_of" gUnit := by
  refine def_okE F c_unit_of (fun ds t ⟨n, h, _⟩ => by rw [h]; rfl) fun X ds t hX ⟨n, h, hn, ht⟩ => ?_
  subst h ht
  have hn2 : (n : Int) < 2 ^ 62 := by omega
  refine Ss.cons (Sm.ret (lcN (xs := List.range n) hX 1 (itRange hX B.range (nmS hX 0) hn2).c (fun X' b hX' i _ => lcN (xs := List.range n) hX' 2 (itRange hX' B.range (nmS hX' 0) hn2).c (fun X2 b2 hX2 j _ => e_intB hX2 B.int (Ev.cmp CmpD.eqI (nmS hX2 1) (nmS hX2 2)).rd) (by rw [List.length_range]; exact sz hn)) (by rw [List.length_range]; exact sz hn)) ?_)
  show T.lst _ = T.lst _
  unfold unitL
  rw [List.map_map]
  congr 1
  refine List.map_congr_left fun i _ => ?_
  show T.lst _ = T.lst _
  rw [List.map_map]
  congr 1
  refine List.map_congr_left fun j _ => ?_
  show T.sh (.int _) = T.sh (.int _)
  congr 2
  by_cases e : i = j
  · subst e
    simp
  · have : ¬ (i : Int) = j := by omega
    simp [e, this]
theorem atI_getD {xs : List Int} {j : Nat} (h : j < xs.length) : atI (xs.map D.int) (j : Int) = some (.int (xs.getD j 0)) := by
  refine atI_nat ?_
  rw [List.getElem?_map, List.getElem?_eq_getElem h, List.getD_eq_getElem?_getD, List.getElem?_eq_getElem h]
  rfl
structure MvOk (p : Int) (row : List Int) (t : List (List Int)) : Prop where
  pos : 0 < p
  rl : row.length ≤ 1000
  rb : ∀ x ∈ row, -(2 ^ 64) < x ∧ x < 2 ^ 64
  tl : t.length ≤ 1000
  ll : ∀ l ∈ t, t.length ≤ l.length
noncomputable def gMovedOf (ds : List D) (t : T) : Prop := ∃ p row tb, ds = [.int p, dR row, dT tb] ∧ MvOk p row tb ∧ t = tR (movedL p row tb)
theorem ok_moved_of (B : BI M.mg) (F : FnE M "moved_of" s_moved_of ["prime", "row", "table"]) : DefOk M 1 "moved_of" gMovedOf := by
  refine def_okE F c_moved_of (fun ds t ⟨p, row, tb, h, _⟩ => by rw [h]; rfl) fun X ds t hX ⟨p, row, tb, h, hq, ht⟩ => ?_
  subst h ht
  let f : Nat → Int := fun j => ((row.zip tb).map fun q => q.1 * q.2.getD j 0).sum % p
  refine Ss.cons (Sm.set hX 3 (Ev.list .nil) (Ss.cons (Sm.forN (xs := List.range tb.length) (en := fun (i : Nat) => D.int (i : Int)) (fun j ρ => ρ = [some (.sh (.int p)), some (.sh (dR row)), some (.sh (dT tb)), some (.lst ((List.range j).map fun i => tI (f i))), none, none, none]) hX 4
    (itRange hX B.range ((e_len hX B.len (nmS hX 2)).rd.cast (by rw [List.length_map]; rfl)) (by have := hq.tl; omega)) rfl (fun j ρ h => by rw [h]; rfl) (fun j a ρ hj hI => ?_) fun ρ hI => ?_)))
  · subst hI
    obtain ⟨hj', rfl⟩ : j < tb.length ∧ j = a := by
      have := List.getElem?_eq_some_iff.mp hj
      obtain ⟨h1, h2⟩ := this
      rw [List.length_range] at h1
      rw [List.getElem_range] at h2
      exact ⟨h1, h2⟩
    refine Ss.cons (Sm.app (nmN hX 3) (Ev.mod (e_sumC (xs := row.zip tb) hX B.sum (lcZ (xs := row.zip tb) (en := fun q => .int q.1) (en' := fun q => dR q.2) hX 5 6 (itZipC (f := D.int) (g := dR) hX B.zip (Ev.lsS (nm hX 1)) (Ev.lsS (nm hX 2))) (fun X' b hX' q hm => Ev.mul (nmS hX' 5) (Rd.ix (nmS hX' 6) (nmS hX' 4) (atI_getD (Nat.lt_of_lt_of_le hj' (hq.ll _ (List.of_mem_zip hm).2)))) (.inl (hq.rb _ (List.of_mem_zip hm).1))) (sz (by rw [List.length_zip]; have := hq.rl; omega)))).rd (nmS hX 0) hq.pos)
      (Ss.drop 4 (Ss.nil ?_)) ?_)
    · rw [List.range_succ, List.map_append]
      rfl
    · rw [List.length_map, List.length_range]
      exact Nat.lt_of_lt_of_le hj' (sz hq.tl)
  · rw [List.length_range] at hI
    subst hI
    refine Ss.cons (Sm.retV hX 3 ?_)
    show T.lst _ = T.lst _
    unfold movedL
    rw [List.map_map]
    rfl
noncomputable def BhOk (p : Int) (one other : List (List Int)) : Prop := one.length ≤ 1000 ∧ ∀ r ∈ one, MvOk p r other
noncomputable def gBehindOf (ds : List D) (t : T) : Prop := ∃ p one other, ds = [.int p, dT one, dT other] ∧ BhOk p one other ∧ t = tT (behindL p one other)
theorem ok_behind_of (F : FnE M "behind_of" s_behind_of ["prime", "one", "other"]) (H1 : DefOk M 1 "moved_of" gMovedOf) : DefOk M 2 "behind_of" gBehindOf := by
  refine def_okE F c_behind_of (fun ds t ⟨p, one, other, h, _⟩ => by rw [h]; rfl) fun X ds t hX ⟨p, one, other, h, hq, ht⟩ => ?_
  subst h ht
  refine Ss.cons (Sm.ret (lcN (xs := one) (en := dR) hX 3 (ItC.list (Ev.lsS (nm hX 1))) (fun X' b hX' r hr => Ev.call hX' H1 (.cons (nm hX' 0) (.cons (nm hX' 3) (.cons (nm hX' 2) .nil))) ⟨p, r, other, rfl, hq.2 r hr, rfl⟩) (sz hq.1)) ?_)
  show T.lst _ = T.lst _
  unfold behindL
  rw [List.map_map]
  rfl
theorem Tab.mv {p : Int} {n : Nat} (hp : Round p) (hn : n ≤ 3) {row : List Int} {t : List (List Int)} (hr : RowOk p n row) (ht : Tab p n t) : MvOk p row t := by
  have := hp.le
  refine ⟨hp.pos, by rw [hr.len]; omega, fun x hx => ?_, by rw [ht.len]; omega, fun l hl => by rw [ht.len, (ht.row l hl).1]; exact Nat.le_refl _⟩
  have := hr.rest x hx
  omega
theorem Tab.bh {p : Int} {n : Nat} (hp : Round p) (hn : n ≤ 3) {s t : List (List Int)} (hs : Tab p n s) (ht : Tab p n t) : BhOk p s t := ⟨by rw [hs.len]; omega, fun r hr => Tab.mv hp hn (hs.mem hr) ht⟩
end
/-! ### the doors of restturns/tables.py -/
section
variable {M : Md}
end
/-! ### the law's own steps: draws -/
noncomputable def primesL : List Int := [1000003, 1000033, 1000037, 1000039, 1000081, 1000099, 1000117, 1000121, 1000133, 1000151, 1000159, 1000171, 1000183, 1000187, 1000193, 1000199]
noncomputable def drawL (c k n : Int) : Int := (c * 48271 + k * 69621) % primesL.getD (k % 16).toNat 0 % n
noncomputable def valueL (c t : Int) : Int := if 1000000000000000000 ≤ c then (c - 1000000000000000000) % 10000000000000000000000000000000000000000 / 2 ^ (3 * t).toNat else
  drawL ((c % 1000000000000000000 + 977 * t) * (c % 1000000000000000000 + 31 * t + 5)) (t % 9 + 1) 999983 * 1000003 + drawL ((c % 1000000000000000000 + 31 * t) * (c % 1000000000000000000 + 7) + 977 * t) (t % 7 + 2) 1000003
theorem primes_pos : ∀ x ∈ primesL, 0 < x := by decide
theorem prime_at (k : Int) : 0 < primesL.getD (k % 16).toNat 0 := by
  have h1 : 0 ≤ k % 16 := Int.emod_nonneg _ (by decide)
  have h2 : k % 16 < 16 := Int.emod_lt_of_pos _ (by decide)
  have h3 : (k % 16).toNat < primesL.length := by
    show _ < 16
    omega
  rw [List.getD_eq_getElem?_getD, List.getElem?_eq_getElem h3]
  exact primes_pos _ (List.getElem_mem h3)
theorem pw10 {X : Cx} {ρ : Rho} {i j m : Int} {a b : Nat} {pos p1 p2 : Pos} (h : i ^ j.toNat = m) (hc : CPow i j := by exact ⟨by decide, by decide, by decide⟩) : Ev X ρ (.BinOp (.Constant (.int i) a p1) .Pow (.Constant (.int j) b p2) pos) (tI m) := h ▸ Ev.pow Ev.int.rd Ev.int.rd hc
section
variable {M : Md}
noncomputable def gCell (ds : List D) (t : T) : Prop := ∃ ns, ∃ k : Nat, ds = [dR ns, .int k] ∧ t = tI (ns.getD k 0)
theorem ok_cell_at (B : BI M.mg) (F : FnE M "_law_cell_at" s__law_cell_at P__law_cell_at) : DefOk M 1 "_law_cell_at" gCell := by
  refine def_okE F c__law_cell_at (fun ds t ⟨ns, k, h, _⟩ => by rw [h]; rfl) fun X ds t hX ⟨ns, k, h, ht⟩ => ?_
  subst h ht
  refine Ss.cons (Sm.ife (Te.cmp CmpD.lt (nmS hX 1) (e_len hX B.len (nmS hX 0)).rd) (fun h => ?_) fun h => ?_)
  · rw [List.length_map] at h
    have hk : k < ns.length := by
      have := of_decide_eq_true h
      omega
    exact Ss.cons (Sm.ret (Ev.ix (nm hX 0) (nmS hX 1) (atI_getD hk)) rfl)
  · rw [List.length_map] at h
    have hk : ¬ k < ns.length := by
      have := of_decide_eq_false h
      omega
    refine Ss.nil (Ss.cons (Sm.ret Ev.int ?_))
    show tI 0 = tI _
    rw [List.getD_eq_getElem?_getD, List.getElem?_eq_none (by omega)]
    rfl
noncomputable def gDraw (ds : List D) (t : T) : Prop := ∃ c k n, ds = [.int c, .int k, .int n] ∧ (0 ≤ k ∧ k < 1000) ∧ 0 < n ∧ t = tI (drawL c k n)
theorem atI_mod (k : Int) : atI (primesL.map D.int) (k % 16) = some (.int (primesL.getD (k % 16).toNat 0)) := by
  have h1 : 0 ≤ k % 16 := Int.emod_nonneg _ (by decide)
  have h2 : k % 16 < 16 := Int.emod_lt_of_pos _ (by decide)
  have h3 := atI_getD (xs := primesL) (j := (k % 16).toNat) (by show _ < 16; omega)
  rw [Int.toNat_of_nonneg h1] at h3
  exact h3
theorem ok_draw (F : FnE M "_law_draw" s__law_draw P__law_draw) : DefOk M 1 "_law_draw" gDraw := by
  refine def_okE F c__law_draw (fun ds t hg => ?_) fun X ds t hX hg => ?_
  · obtain ⟨c, k, n, h, _⟩ := hg
    rw [h]
    rfl
  obtain ⟨c, k, n, h, hk, hn, ht⟩ := hg
  subst h ht
  refine Ss.cons (Sm.set hX 3 (t := .sh (.tup (primesL.map D.int))) (Ev.tupI (ns := primesL)) ?_)
  exact Ss.cons (Sm.ret (Ev.mod (Ev.mod (Ev.add (Ev.mul (nmS hX 0) Ev.int.rd (.inr (by decide))).rd (Ev.mul (nmS hX 1) Ev.int.rd (.inl ⟨by omega, by omega⟩)).rd).rd (Rd.ixT (nmS hX 3) (Ev.mod (nmS hX 1) Ev.int.rd (by decide)).rd (atI_mod k)) (prime_at k)).rd (nmS hX 2) hn) rfl)
noncomputable def gValue (ds : List D) (t : T) : Prop := ∃ c u, ds = [.int c, .int u] ∧ (0 ≤ u ∧ u < 1000) ∧ t = tI (valueL c u)
theorem ok_value (F : FnE M "_law_value" s__law_value P__law_value) (H1 : DefOk M 1 "_law_draw" gDraw) : DefOk M 2 "_law_value" gValue := by
  refine def_okE F c__law_value (fun ds t ⟨c, u, h, _⟩ => by rw [h]; rfl) fun X ds t hX ⟨c, u, h, ⟨hu1, hu2⟩, ht⟩ => ?_
  subst h ht
  refine Ss.cons (Sm.ife (Te.cmp CmpD.ge (nmS hX 0) (pw10 (m := 1000000000000000000) rfl).rd) (fun h => ?_) fun h => ?_)
  · refine Ss.cons (Sm.ret (Ev.shr (Ev.mod (Ev.sub (nmS hX 0) (pw10 (m := 1000000000000000000) rfl).rd).rd (pw10 (m := 10000000000000000000000000000000000000000) rfl).rd (by decide)).rd (Ev.mul Ev.int.rd (nmS hX 1) (.inl (by decide))).rd (by omega)) ?_)
    show tI _ = tI _
    unfold valueL
    rw [if_pos (of_decide_eq_true h)]
  · have hr1 : 0 ≤ c % 1000000000000000000 := Int.emod_nonneg _ (by decide)
    have hr2 : c % 1000000000000000000 < 1000000000000000000 := Int.emod_lt_of_pos _ (by decide)
    have m9 : 0 ≤ u % 9 := Int.emod_nonneg _ (by decide)
    have m9' : u % 9 < 9 := Int.emod_lt_of_pos _ (by decide)
    have m7 : 0 ≤ u % 7 := Int.emod_nonneg _ (by decide)
    have m7' : u % 7 < 7 := Int.emod_lt_of_pos _ (by decide)
    refine Ss.nil (Ss.cons (Sm.set hX 2 (t := tI (c % 1000000000000000000)) (Ev.mod (nmS hX 0) (pw10 (m := 1000000000000000000) rfl).rd (by decide)) ?_))
    refine Ss.cons (Sm.set hX 3 (Ev.call hX H1 (.cons (Ev.mul (Ev.add (nmS hX 2) (Ev.mul Ev.int.rd (nmS hX 1) (.inl (by decide))).rd).rd (Ev.add (Ev.add (nmS hX 2) (Ev.mul Ev.int.rd (nmS hX 1) (.inl (by decide))).rd).rd Ev.int.rd).rd (.inl (by omega))) (.cons (Ev.add (Ev.mod (nmS hX 1) Ev.int.rd (by decide)).rd Ev.int.rd) (.cons Ev.int .nil))) ⟨_, _, _, rfl, by omega, by decide, rfl⟩) ?_)
    refine Ss.cons (Sm.ret (Ev.add (Ev.mul (nmS hX 3) Ev.int.rd (.inr (by decide))).rd (Ev.rd (Ev.call hX H1 (.cons (Ev.add (Ev.mul (Ev.add (nmS hX 2) (Ev.mul Ev.int.rd (nmS hX 1) (.inl (by decide))).rd).rd (Ev.add (nmS hX 2) Ev.int.rd).rd (.inl (by omega))).rd (Ev.mul Ev.int.rd (nmS hX 1) (.inl (by decide))).rd) (.cons (Ev.add (Ev.mod (nmS hX 1) Ev.int.rd (by decide)).rd Ev.int.rd) (.cons Ev.int .nil))) ⟨_, _, _, rfl, by omega, by decide, rfl⟩))) ?_)
    show tI _ = tI _
    unfold valueL
    rw [if_neg (of_decide_eq_false h)]
end
/-! ### the law's own steps: tables -/
section
variable {M : Md}
end
section
variable {M : Md}
theorem rng_at {n j i : Nat} (h : (List.range n)[j]? = some i) : j < n ∧ i = j := by
  obtain ⟨h1, h2⟩ := List.getElem?_eq_some_iff.mp h
  rw [List.length_range] at h1
  rw [List.getElem_range] at h2
  exact ⟨h1, h2.symm⟩
theorem ixN_nat {n j : Nat} (h : j < n) : ixN n (j : Int) = some j := by
  unfold ixN
  rw [if_pos (by omega), if_pos (by omega)]
  congr 1
theorem getD_some {α : Type} {xs : List α} {i : Nat} (h : i < xs.length) (d : α) : xs[i]? = some (xs.getD i d) := by
  rw [List.getD_eq_getElem?_getD, List.getElem?_eq_getElem h]
  rfl
end
/-! ### restturns/clearing.py -/
noncomputable abbrev tS (rs : List (List Int)) : T := .lst (rs.map fun r => T.sh (dR r))
noncomputable abbrev dNs (ls : List Nat) : D := .lst (ls.map fun (l : Nat) => D.int l)
theorem er_tS (rs : List (List Int)) : (tS rs).er = dT rs := by
  show D.lst _ = D.lst _
  rw [ers_mapG _ dR fun _ => rfl]
theorem er_tNs (ls : List Nat) : T.er (.lst (ls.map fun (l : Nat) => tI l)) = dNs ls := by
  show D.lst _ = D.lst _
  rw [ers_mapG _ (fun (l : Nat) => D.int l) fun _ => rfl]
theorem rowAt_get {rows : List (List Int)} {i : Nat} (h : i < rows.length) : rows[i]? = some (rowAt rows i) := by
  unfold rowAt
  rw [List.getD_eq_getElem?_getD, List.getElem?_eq_getElem h]
  rfl
theorem atI_row {rows : List (List Int)} {i : Nat} (h : i < rows.length) : atI (rows.map dR) (i : Int) = some (dR (rowAt rows i)) := by
  refine atI_nat ?_
  rw [List.getElem?_map, rowAt_get h]
  rfl
theorem atI_rowS {rows : List (List Int)} {i : Nat} (h : i < rows.length) : atI (rows.map fun r => T.sh (dR r)) (i : Int) = some (T.sh (dR (rowAt rows i))) := by
  refine atI_nat ?_
  rw [List.getElem?_map, rowAt_get h]
  rfl
theorem rowAt_set {rows : List (List Int)} {i j : Nat} {r : List Int} (h : i < rows.length) : rowAt (rows.set i r) j = if j = i then r else rowAt rows j := by
  unfold rowAt
  rw [List.getD_eq_getElem?_getD, List.getElem?_set]
  by_cases e : j = i
  · subst e
    rw [if_pos rfl, if_pos h, if_pos rfl]
    rfl
  · rw [if_neg fun z => e z.symm, if_neg e, ← List.getD_eq_getElem?_getD]
/-- the rows while they are cleared by the one at here -/
noncomputable def clrTo (p : Int) (rows : List (List Int)) (here spot : Nat) (lead : List Int) (l : Nat) : List (List Int) := (List.range rows.length).map fun i => if i = here then lead else if i < l then lessL p (rowAt rows i) lead spot else rowAt rows i
theorem clrTo_len (p : Int) (rows : List (List Int)) (here spot : Nat) (lead : List Int) (l : Nat) : (clrTo p rows here spot lead l).length = rows.length := by
  unfold clrTo
  rw [List.length_map, List.length_range]
theorem clrTo_at {p : Int} {rows : List (List Int)} {here spot l i : Nat} {lead : List Int} (h : i < rows.length) : rowAt (clrTo p rows here spot lead l) i = if i = here then lead else if i < l then lessL p (rowAt rows i) lead spot else rowAt rows i := by
  unfold clrTo
  show ((List.range rows.length).map _).getD i [] = _
  rw [getD_range _ _ h]
theorem clrTo_0 {p : Int} {rows : List (List Int)} {here spot : Nat} {lead : List Int} (h : here < rows.length) : rows.set here lead = clrTo p rows here spot lead 0 := by
  refine tab_rows_ext (n := rows.length) (List.length_set ..) (clrTo_len ..) fun i hi => ?_
  rw [rowAt_set h, clrTo_at hi, if_neg (Nat.not_lt_zero i)]
theorem clrTo_all {p : Int} {rows : List (List Int)} {here spot : Nat} {lead : List Int} : clrTo p rows here spot lead rows.length = clrL p rows here spot lead := by
  refine tab_rows_ext (n := rows.length) (clrTo_len ..) (clr_len ..) fun i hi => ?_
  rw [clrTo_at hi, clr_at hi, if_pos hi]
theorem clrTo_here {p : Int} {rows : List (List Int)} {here spot : Nat} {lead : List Int} : clrTo p rows here spot lead (here + 1) = clrTo p rows here spot lead here := by
  refine tab_rows_ext (n := rows.length) (clrTo_len ..) (clrTo_len ..) fun i hi => ?_
  rw [clrTo_at hi, clrTo_at hi]
  by_cases e : i = here
  · rw [if_pos e, if_pos e]
  · rw [if_neg e, if_neg e]
    by_cases q : i < here
    · rw [if_pos (by omega), if_pos q]
    · rw [if_neg (by omega), if_neg q]
theorem clrTo_next {p : Int} {rows : List (List Int)} {here spot l : Nat} {lead : List Int} (h : l < rows.length) (ne : l ≠ here) : (clrTo p rows here spot lead l).set l (lessL p (rowAt rows l) lead spot) = clrTo p rows here spot lead (l + 1) := by
  refine tab_rows_ext (n := rows.length) (by rw [List.length_set, clrTo_len]) (clrTo_len ..) fun i hi => ?_
  rw [rowAt_set (by rw [clrTo_len]; exact h), clrTo_at hi, clrTo_at hi]
  by_cases e : i = l
  · subst e
    rw [if_pos rfl, if_neg ne, if_pos (by omega)]
  · rw [if_neg e]
    by_cases q : i = here
    · rw [if_pos q, if_pos q]
    · rw [if_neg q, if_neg q]
      by_cases z : i < l
      · rw [if_pos z, if_pos (by omega)]
      · rw [if_neg z, if_neg (by omega)]
section
variable {M : Md}
noncomputable def gBack (ds : List D) (t : T) : Prop := ∃ p r, ds = [.int p, .int r] ∧ Round p ∧ (0 < r ∧ r < p) ∧ t = tI (backL p r)
theorem ok_back_of (B : BI M.mg) (F : FnE M "back_of" s_back_of P_back_of) : DefOk M 1 "back_of" gBack := by
  refine def_okE F c_back_of (fun ds t ⟨p, r, h, _⟩ => by rw [h]; rfl) fun X ds t hX ⟨p, r, h, hp, hr, ht⟩ => ?_
  subst h ht
  have hp0 := hp.pos
  have h7 := hp.le
  let fl := ((List.range (p - 1).toNat).filter fun (i : Nat) => decide (r * (1 + (i : Int)) % p = 1))
  have hb : backL p r = (fl.map fun (i : Nat) => 1 + (i : Int)).getD 0 0 := by
    unfold backL
    rw [List.filter_map]
    rfl
  have ne : fl ≠ [] := fun z => by
    have := (back_ok hp hr.1 hr.2).1
    rw [hb, z] at this
    have e : r * (0 : Int) % p = 1 := this
    rw [Int.mul_zero, Int.zero_emod] at e
    cases e
  have at0 : atI (fl.map fun (i : Nat) => D.int (1 + (i : Int))) ((0 : Nat) : Int) = some (.int (backL p r)) := by
    refine atI_nat ?_
    rw [hb]
    cases hf : fl with
    | nil => exact absurd hf ne
    | cons a l => rfl
  refine Ss.cons (Sm.ret (Ev.ix (ds := fl.map fun (i : Nat) => D.int (1 + (i : Int))) ((lcF (xs := List.range (p - 1).toNat) (en := fun (i : Nat) => D.int (1 + (i : Int))) (g := fun (i : Nat) => tI (1 + (i : Int))) (q := fun (i : Nat) => decide (r * (1 + (i : Int)) % p = 1)) hX 2 (itRange2 hX B.range Ev.int.rd (nmS hX 0) rfl (by omega)).c
    (fun X' b hX' i hi => ⟨Te.cmp CmpD.eqI (Ev.mod (Ev.mul (nmS hX' 1) (nmS hX' 2) (.inl (by omega))).rd (nmS hX' 0) hp0).rd Ev.int.rd, fun _ => nm hX' 2⟩) (sz (by rw [List.length_range]; omega))).fz' ?_) Ev.int.rd at0) rfl)
  show D.lst _ = D.lst _
  rw [ers_mapG _ (fun (i : Nat) => D.int (1 + (i : Int))) fun _ => rfl]
noncomputable def gLess (ds : List D) (t : T) : Prop := ∃ p row lead, ∃ spot w : Nat, ds = [.int p, dR row, dR lead, .int spot] ∧ Round p ∧ w ≤ 1000 ∧ RowOk p w row ∧ RowOk p w lead ∧ spot < w ∧ t = tR (lessL p row lead spot)
theorem ok_less_of (B : BI M.mg) (F : FnE M "less_of" s_less_of P_less_of) : DefOk M 1 "less_of" gLess := by
  refine def_okE F c_less_of (fun ds t ⟨p, row, lead, spot, w, h, _⟩ => by rw [h]; rfl) fun X ds t hX ⟨p, row, lead, spot, w, h, hp, hw, h1, h2, hs, ht⟩ => ?_
  subst h ht
  have hp0 := hp.pos
  have h7 := hp.le
  have hr := h1.rest _ (getD_mem 0 (show spot < row.length by rw [h1.len]; exact hs))
  refine Ss.cons (Sm.ret (lcZ (xs := row.zip lead) (en := fun q => .int q.1) (en' := fun q => .int q.2) hX 4 5 (itZipC (f := D.int) (g := D.int) hX B.zip (Ev.lsS (nm hX 1)) (Ev.lsS (nm hX 2))) (fun X' b hX' q hm => Ev.mod (Ev.sub (nmS hX' 4) (Ev.mul (Rd.ix (nmS hX' 1) (nmS hX' 3) (atI_getD (by rw [h1.len]; exact hs))) (nmS hX' 5) (.inl (by omega))).rd).rd (nmS hX' 0) hp0) (sz (by rw [List.length_zip, h1.len, h2.len]; omega))) ?_)
  show T.lst _ = T.lst _
  unfold lessL
  rw [List.map_map]
  rfl
structure ClOk (p : Int) (w : Nat) (rows : List (List Int)) : Prop where
  rd : Round p
  wl : w ≤ 1000
  ml : rows.length ≤ 1000
  ok : ∀ r ∈ rows, RowOk p w r
noncomputable def gCleared (ds : List D) (t : T) : Prop := ∃ p rows, ∃ w wide : Nat, ds = [.int p, dT rows, .int wide] ∧ ClOk p w rows ∧ wide ≤ w ∧ t = .sh (.tup [dT (clearTo p rows wide).1, dNs (clearTo p rows wide).2])
theorem ok_cleared (B : BI M.mg) (F : FnE M "cleared" s_cleared P_cleared) (H1 : DefOk M 1 "back_of" gBack) (H2 : DefOk M 1 "less_of" gLess) : DefOk M 2 "cleared" gCleared := by
  refine def_okE F c_cleared (fun ds t ⟨p, rows, w, wide, h, _⟩ => by rw [h]; rfl) fun X ds t hX ⟨p, rows, w, wide, h, C, hwd, ht⟩ => ?_
  subst h ht
  have hp := C.rd
  have hp0 := hp.pos
  have h7 := hp.le
  have hw := C.wl
  have hm := C.ml
  refine Ss.cons (Sm.parO hX 1 3 (t := tS rows) (u := .lst []) (.cons (lcN (xs := rows) (en := dR) (g := fun r => T.sh (dR r)) hX 4 (ItC.list (Ev.lsS (nm hX 1))) (fun X' b hX' r hr => (e_listOf hX' B.list (Ev.lsS (nm hX' 4))).fz' (er_shs _)) (sz hm)) (.cons (Ev.list .nil) .nil)) ?_)
  refine Ss.consP (fun ρ => ρ = [some (.sh (.int p)), some (tS (clearTo p rows wide).1), some (.sh (.int wide)), some (.lst ((clearTo p rows wide).2.map fun (l : Nat) => tI l)), none, none, none, none, none, none, none, none])
    (Sm.forN (xs := List.range wide) (en := fun (i : Nat) => D.int (i : Int)) (fun j ρ => ρ = [some (.sh (.int p)), some (tS (clearTo p rows j).1), some (.sh (.int wide)), some (.lst ((clearTo p rows j).2.map fun (l : Nat) => tI l)), none, none, none, none, none, none, none, none]) hX 5
      (itRange hX B.range (nmS hX 2) (by omega)) rfl (fun j ρ h => by rw [h]; rfl) (fun j a ρ hj hI => ?_) fun ρ h => by rw [List.length_range] at h; exact h) fun ρ hρ => ?_
  · subst hI
    obtain ⟨hj', rfl⟩ := rng_at hj
    have g := clear_inv hp C.ok a
    rw [clearTo_succ]
    generalize clearTo p rows a = st at g
    obtain ⟨rs, leads⟩ := st
    obtain ⟨len, ok, to, fro, km, lt, inc, del, low⟩ := g
    simp only at len ok to fro km lt inc del low
    generalize hk : leads.length = k at km
    have hlen : rs.length ≤ 1000 := by omega
    have erl : T.er (.lst (leads.map fun (l : Nat) => tI l)) = .lst (leads.map fun (l : Nat) => D.int l) := er_tNs leads
    let fr := (List.range (rs.length - k)).filter fun i => !decide ((rowAt rs (k + i)).getD a 0 = 0)
    refine Ss.cons (Sm.lcF (xs := List.range (rs.length - k)) (en := fun (i : Nat) => D.int ((k : Int) + (i : Int))) (g := fun (i : Nat) => tI ((k : Int) + (i : Int))) (q := fun i => !decide ((rowAt rs (k + i)).getD a 0 = 0)) hX 6 7
      (itRange2 (lo := k) (j := rs.length) hX B.range ((e_len hX B.len (nmO hX 3 rfl erl)).rd.cast (by rw [List.length_map, hk]; rfl)) ((e_len hX B.len (nmO hX 1 rfl (er_tS rs))).rd.cast (by rw [List.length_map]; rfl)) (by omega) (by omega)).c
      (fun X' b hX' i hi => ⟨?_, fun _ => nm hX' 7⟩) (sz (by rw [List.length_range]; omega)) ?_)
    · have hi := List.mem_range.mp hi
      have hki : k + i < rs.length := by omega
      have o := ok _ (rowAt_mem hki)
      exact (Te.cmp CmpD.neI (Rd.ix (Rd.ix (nmO hX' 1 rfl (er_tS rs)) (nmS hX' 7) (by rw [← Int.natCast_add]; exact atI_row hki)) (nmS hX' 5) (atI_getD (by rw [o.len]; omega))) Ev.int.rd)
    have hfr : freeL rs leads.length a = fr := by rw [hk]; rfl
    show Ss X [_, _, _, _, _, _, some (.lst (fr.map fun (i : Nat) => tI ((k : Int) + (i : Int)))), _, _, _, _, _] _ _
    generalize fr = fr at hfr
    have erf : T.er (.lst (fr.map fun (i : Nat) => tI ((k : Int) + (i : Int)))) = .lst (fr.map fun (i : Nat) => D.int ((k : Int) + (i : Int))) := by
      show D.lst _ = D.lst _
      rw [ers_mapG _ (fun (i : Nat) => D.int ((k : Int) + (i : Int))) fun _ => rfl]
    have okf : Ok 1 (.lst (fr.map fun (i : Nat) => D.int ((k : Int) + (i : Int)))) := ok_map fun _ => ok_int
    refine Ss.cons (Sm.ife (q := !decide (fr = [])) (Te.of (Te.cmp (CmpD.ne hX.room okf (ok_dR [])) (nmO hX 6 rfl erf) (Ev.list .nil).rd) ?_) (fun hq => ?_) fun hq => ?_)
    · cases fr with
      | nil => rfl
      | cons i l => rfl
    · -- one is free
      rw [Bool.not_eq_true'] at hq
      obtain ⟨i, l, rfl⟩ : ∃ i l, fr = i :: l := by
        cases fr with
        | nil => cases hq
        | cons i l => exact ⟨i, l, rfl⟩
      have hi : i ∈ freeL rs leads.length a := by rw [hfr]; exact List.mem_cons_self ..
      unfold freeL at hi
      rw [List.mem_filter, List.mem_range, hk] at hi
      obtain ⟨hi1, hi2⟩ := hi
      have hi3 : (rowAt rs (k + i)).getD a 0 ≠ 0 := fun z => by
        rw [decide_eq_true z] at hi2
        cases hi2
      have hkm : k < rs.length := by omega
      have ham : k + i < rs.length := by omega
      have stp : clearStep p (rs, leads) a = (clrL p (swapL rs (k + i) k) k a (scaleL p (rowAt (swapL rs (k + i) k) k) a), leads ++ [a]) := by
        unfold clearStep
        show (match freeL rs leads.length a with | [] => _ | i :: _ => _) = _
        rw [hfr, hk]
      rw [stp]
      refine Ss.cons (Sm.par hX 7 8 (.cons (Pa.ev (Pa.ix (nmP hX 6) Ev.int.rd (atI_nat (j := 0) rfl))) (.cons ((e_len hX B.len (nmO hX 3 rfl erl)).cast (t' := tI k) (by rw [List.length_map, hk])) .nil)) ?_)
      rw [show ((k : Int) + (i : Int)) = ((k + i : Nat) : Int) from (Int.natCast_add k i).symm]
      refine Ss.cons (Sm.sto (Ev.tup (.cons (Pa.ev (Pa.ix (nmP hX 1) (nmS hX 8) (atI_rowS hkm))) (.cons (Pa.ev (Pa.ix (nmP hX 1) (nmS hX 7) (atI_rowS ham))) .nil)))
        (Gs.tup2 hX (Gs.sub (ts := rs.map fun r => T.sh (dR r)) (nmN hX 1) (nmS hX 7) (by rw [List.length_map]; exact ixN_nat ham) (by rw [List.getElem?_map, rowAt_get ham]; rfl)) (Gs.sub (ts := (rs.map fun r => T.sh (dR r)).set (k + i) (T.sh (dR (rowAt rs k)))) (nmN hX 1) (nmS hX 8) (by rw [List.length_set, List.length_map]; exact ixN_nat hkm) (getD_some (by rw [List.length_set, List.length_map]; exact hkm) (T.sh .non)))) ?_ (hw := by rw [swapped_eq, hX.s]; rfl))
      have esw : ((rs.map fun r => T.sh (dR r)).set (k + i) (T.sh (dR (rowAt rs k)))).set k (T.sh (dR (rowAt rs (k + i)))) = (swapL rs (k + i) k).map fun r => T.sh (dR r) := by
        unfold swapL
        rw [List.map_set, List.map_set]
      show Ss X [_, some (T.lst (((rs.map fun r => T.sh (dR r)).set (k + i) (T.sh (dR (rowAt rs k)))).set k (T.sh (dR (rowAt rs (k + i)))))), _, _, _, _, _, _, _, _, _, _] _ _
      rw [esw]
      have sl := swap_len rs (k + i) k
      have sa := swap_at (rows := rs) (a := k + i) (b := k) (i := k) ham hkm
      have sok : ∀ r ∈ swapL rs (k + i) k, RowOk p w r := fun r hr => by
        unfold swapL at hr
        rcases List.mem_or_eq_of_mem_set hr with z | z
        · rcases List.mem_or_eq_of_mem_set z with z | z
          · exact ok r z
          · rw [z]
            exact ok _ (rowAt_mem hkm)
        · rw [z]
          exact ok _ (rowAt_mem ham)
      rw [if_pos rfl] at sa
      generalize swapL rs (k + i) k = rs1 at sl sa sok
      have hkm1 : k < rs1.length := by omega
      have piv : (rowAt rs1 k).getD a 0 ≠ 0 := by rw [sa]; exact hi3
      have okk := sok _ (rowAt_mem hkm1)
      have pr := rz_ne okk piv
      have bk := back_ok hp pr.1 pr.2
      refine Ss.cons (Sm.set hX 9 (Ev.call hX H1 (.cons (nm hX 0) (.cons (Rd.evI (Rd.ix (Rd.ix (nmO hX 1 rfl (er_tS rs1)) (nmS hX 8) (atI_row hkm1)) (nmS hX 5) (atI_getD (by rw [okk.len]; omega)))) .nil)) ⟨p, _, rfl, hp, pr, rfl⟩) ?_)
      refine Ss.cons (Sm.seti (ts := rs1.map fun r => T.sh (dR r)) (u := .sh (dR (scaleL p (rowAt rs1 k) a))) ((lcN (xs := rowAt rs1 k) (en := D.int) hX 10 (ItC.list (Ev.lsS (Pa.ev (Pa.ix (nmP hX 1) (nmS hX 8) (atI_rowS hkm1))))) (fun X' b hX' x hx => Ev.mod (Ev.mul (nmS hX' 10) (nmS hX' 9) (.inl (by have := okk.rest x hx; omega))).rd (nmS hX' 0) hp0) (sz (by rw [okk.len]; omega))).fz' ?_) (nmN hX 1) (nmS hX 8) ?_ (by rw [List.length_map]; exact ixN_nat hkm1) (by rw [List.getElem?_map, rowAt_get hkm1]; rfl))
      · show D.lst _ = D.lst _
        rw [ers_mapG _ (fun x => D.int (x * backL p ((rowAt rs1 k).getD a 0) % p)) fun _ => rfl]
        unfold scaleL
        rw [List.map_map]
        rfl
      have okL := scale_ok hp0 (spot := a) okk.len
      generalize scaleL p (rowAt rs1 k) a = lead at okL
      have est : (rs1.map fun r => T.sh (dR r)).set k (T.sh (dR lead)) = (clrTo p rs1 k a lead 0).map fun r => T.sh (dR r) := by
        rw [← clrTo_0 hkm1, List.map_set]
      show Ss X [_, some (T.lst ((rs1.map fun r => T.sh (dR r)).set k (T.sh (dR lead)))), _, _, _, _, _, _, _, _, _, _] _ _
      rw [est]
      refine Ss.consP (fun ρ => ρ = [some (.sh (.int p)), some (tS (clrTo p rs1 k a lead rs1.length)), some (.sh (.int wide)), some (.lst (leads.map fun (l : Nat) => tI l)), none, some (.sh (.int a)), some (.lst ((i :: l).map fun (i : Nat) => tI ((k : Int) + (i : Int)))), some (.sh (.int ((k + i : Nat) : Int))), some (tI k), some (tI (backL p ((rowAt rs1 k).getD a 0))), none, none])
        (Sm.forN (xs := List.range rs1.length) (en := fun (i : Nat) => D.int (i : Int)) (fun c ρ => ρ = [some (.sh (.int p)), some (tS (clrTo p rs1 k a lead c)), some (.sh (.int wide)), some (.lst (leads.map fun (l : Nat) => tI l)), none, some (.sh (.int a)), some (.lst ((i :: l).map fun (i : Nat) => tI ((k : Int) + (i : Int)))), some (.sh (.int ((k + i : Nat) : Int))), some (tI k), some (tI (backL p ((rowAt rs1 k).getD a 0))), none, none]) hX 11
          (itRange hX B.range ((e_len hX B.len (nmO hX 1 rfl (er_tS _))).rd.cast (by rw [List.length_map, clrTo_len]; rfl)) (by omega)) rfl (fun c ρ h => by rw [h]; rfl) (fun c o ρ hc hI => ?_) fun ρ h => by rw [List.length_range] at h; exact h) fun ρ hρ => ?_
      · subst hI
        obtain ⟨hc', rfl⟩ := rng_at hc
        have hol : o < (clrTo p rs1 k a lead o).length := by rw [clrTo_len]; exact hc'
        have hkl : k < (clrTo p rs1 k a lead o).length := by rw [clrTo_len]; exact hkm1
        refine Ss.cons (Sm.ife (q := !decide (o = k)) (Te.of (Te.cmp CmpD.neI (nmS hX 11) (nmS hX 8)) ?_) (fun hq => ?_) fun hq => ?_)
        · by_cases e : o = k
          · rw [decide_eq_true e, decide_eq_true (by omega)]
          · rw [decide_eq_false e, decide_eq_false (by omega)]
        · have hne : o ≠ k := fun z => by rw [decide_eq_true z] at hq; cases hq
          have er1 : rowAt (clrTo p rs1 k a lead o) o = rowAt rs1 o := by rw [clrTo_at hc', if_neg hne, if_neg (Nat.lt_irrefl o)]
          have er2 : rowAt (clrTo p rs1 k a lead o) k = lead := by rw [clrTo_at hkm1, if_pos rfl]
          have oo := sok _ (rowAt_mem hc')
          refine Ss.cons (Sm.seti (ts := (clrTo p rs1 k a lead o).map fun r => T.sh (dR r)) (u := .sh (dR (lessL p (rowAt rs1 o) lead a))) ((Ev.call hX H2 (.cons (nm hX 0) (.cons (Pa.ev (Pa.ix (nmP hX 1) (nmS hX 11) (atI_rowS hol))) (.cons (Pa.ev (Pa.ix (nmP hX 1) (nmS hX 8) (atI_rowS hkl))) (.cons (nm hX 5) .nil)))) ⟨p, _, _, a, w, by rw [er1, er2]; rfl, hp, hw, oo, okL, by omega, rfl⟩).fz' (er_tR _)) (nmN hX 1) (nmS hX 11) (Ss.drop 11 (Ss.nil (Ss.nil ?_))) (by rw [List.length_map]; exact ixN_nat hol) (by rw [List.getElem?_map, rowAt_get hol]; rfl))
          have e : T.lst (((clrTo p rs1 k a lead o).map fun r => T.sh (dR r)).set o (T.sh (dR (lessL p (rowAt rs1 o) lead a)))) = tS (clrTo p rs1 k a lead (o + 1)) := by
            rw [← clrTo_next hc' hne]
            show T.lst _ = T.lst _
            rw [List.map_set]
          show [_, some (T.lst (((clrTo p rs1 k a lead o).map fun r => T.sh (dR r)).set o (T.sh (dR (lessL p (rowAt rs1 o) lead a))))), _, _, _, _, _, _, _, _, _, _] = _
          rw [e]
        · rw [Bool.not_eq_false', decide_eq_true_eq] at hq
          refine Ss.nil (Ss.drop 11 (Ss.nil ?_))
          show _ = _
          subst hq
          rw [clrTo_here]
          rfl
      · subst hρ
        rw [clrTo_all]
        refine Ss.cons (Sm.app (ts := leads.map fun (l : Nat) => tI l) (nmN hX 3) (nm hX 5) (Ss.drop 5 (Ss.drop 6 (Ss.drop 7 (Ss.drop 8 (Ss.drop 9 (Ss.nil (Ss.nil ?_))))))) ?_) 
        · show _ = _
          rw [List.map_append]
          rfl
        · rw [List.length_map, hk]
          exact Nat.lt_of_lt_of_le (show k < 1000 by omega) (sz (Nat.le_refl _))
    · rw [Bool.not_eq_false', decide_eq_true_eq] at hq
      have stp : clearStep p (rs, leads) a = (rs, leads) := by
        unfold clearStep
        show (match freeL rs leads.length a with | [] => _ | i :: _ => _) = _
        rw [hfr, hq]
      rw [stp]
      exact Ss.nil (Ss.drop 5 (Ss.drop 6 (Ss.nil rfl)))
  · subst hρ
    refine Ss.frz 1 (d := dT (clearTo p rows wide).1) (Ss.frz 3 (d := dNs (clearTo p rows wide).2) ?_ rfl (er_tNs _)) rfl (er_tS _)
    exact Ss.cons (Sm.ret (Ev.tup (.cons (nm hX 1) (.cons (nm hX 3) .nil))) rfl)
noncomputable def gRankOf (ds : List D) (t : T) : Prop := ∃ p rows, ∃ w : Nat, ds = [.int p, dT rows] ∧ ClOk p w rows ∧ t = tI (rankG p rows)
theorem ok_rank_of (B : BI M.mg) (F : FnE M "rank_of" s_rank_of P_rank_of) (H1 : DefOk M 2 "cleared" gCleared) : DefOk M 3 "rank_of" gRankOf := by
  refine def_okE F c_rank_of (fun ds t ⟨p, rows, w, h, _⟩ => by rw [h]; rfl) fun X ds t hX ⟨p, rows, w, h, C, ht⟩ => ?_
  subst h ht
  refine Ss.cons (Sm.ret (Ev.ifx (p := decide (rows = [])) (Te.of (Te.cmp (CmpD.eq hX.room (ok_dT rows) (ok_dT [])) (nmS hX 1) (Ev.list .nil).rd) (eqb_dT rows [])) (fun h => ?_) fun h => ?_) rfl)
  · have e := of_decide_eq_true h
    subst e
    exact Ev.int
  · have e := of_decide_eq_false h
    have hl : 0 < rows.length := List.length_pos_iff.mpr e
    have hw : (rowAt rows 0).length = w := (C.ok _ (rowAt_mem hl)).len
    refine (e_len hX B.len (Rd.ixT (ds := [dT (clearTo p rows w).1, dNs (clearTo p rows w).2]) (Ev.rd (Ev.call hX H1 (.cons (nm hX 0) (.cons (nm hX 1) (.cons ((e_len hX B.len (Rd.ix (nmS hX 1) Ev.int.rd (atI_row hl))).cast (t' := tI w) (by rw [List.length_map, hw])) .nil))) ⟨p, rows, w, w, rfl, C, Nat.le_refl _, rfl⟩)) Ev.int.rd rfl)).cast ?_
    show tI _ = tI _
    unfold rankG
    rw [if_neg e, List.length_map, hw]
end
/-! ### small helps -/
theorem cutD_1 {α : Type} (xs : List α) (f : α → D) : cutD (xs.map f) (some 1) none = (xs.drop 1).map f := by
  unfold cutD
  have e : HT.sIx (xs.map f).length 0 (some 1) = min 1 (xs.map f).length := HT.sIx_nat _ _ 1
  rw [HT.sIx_none, e, List.take_of_length_le (by rw [List.length_drop]; exact Nat.le_refl _), List.length_map, ← List.map_drop]
  cases xs with
  | nil => rfl
  | cons x xs => rw [show min 1 (x :: xs).length = 1 from by rw [List.length_cons]; omega]
theorem ls_cut1 {α : Type} {X : Cx} {ρ : Rho} {a lo : Expr} {p2 pos : Pos} {xs : List α} {f : α → D} (h : Ls X ρ a (xs.map f)) (hl : Rd X ρ lo (.int 1)) : Ls X ρ (.Subscript a (.Slice (some lo) none none p2) pos) ((xs.drop 1).map f) := by
  have h' := (Ev.cutL (pos := pos) (p2 := p2) h hl).ls
  rw [ers_sh, cutD_1] at h'
  exact h'
theorem cutN_take {α : Type} (xs : List α) (i : Nat) : cutN xs none (some (i : Int)) = xs.take i := by
  unfold cutN
  have e : HT.sIx xs.length xs.length (some (i : Int)) = min i xs.length := HT.sIx_nat _ _ i
  rw [HT.sIx_none, e, List.drop_zero, Nat.sub_zero]
  by_cases h : i ≤ xs.length
  · rw [Nat.min_eq_left h]
  · rw [Nat.min_eq_right (by omega), List.take_of_length_le (by omega), List.take_of_length_le (by omega)]
theorem cutN_drop {α : Type} (xs : List α) (i : Nat) : cutN xs (some (i : Int)) none = xs.drop i := by
  unfold cutN
  have e : HT.sIx xs.length 0 (some (i : Int)) = min i xs.length := HT.sIx_nat _ _ i
  rw [HT.sIx_none, e, List.take_of_length_le (by rw [List.length_drop]; exact Nat.le_refl _)]
  by_cases h : i ≤ xs.length
  · rw [Nat.min_eq_left h]
  · rw [Nat.min_eq_right (by omega), List.drop_of_length_le (by omega), List.drop_of_length_le (by omega)]
theorem enumD_map {α : Type} (f : α → D) (d : α) (xs : List α) : enumD (xs.map f) = (List.range xs.length).map fun (i : Nat) => .tup [.int i, f (xs.getD i d)] := by
  unfold enumD
  rw [List.length_map]
  refine List.ext_getElem? fun i => ?_
  by_cases h : i < xs.length
  · unfold zipD
    rw [List.getElem?_zipWith, List.getElem?_map, List.getElem?_map, List.getElem?_range h, List.getElem?_eq_getElem h]
    unfold rngD
    rw [List.getElem?_map, List.getElem?_range h]
    show some (D.tup [.int (0 + (i : Int)), f xs[i]]) = some (D.tup [.int i, f (xs.getD i d)])
    rw [Int.zero_add, List.getD_eq_getElem?_getD, List.getElem?_eq_getElem h]
    rfl
  · unfold zipD rngD
    rw [List.getElem?_eq_none (by rw [List.length_zipWith, List.length_map, List.length_map, List.length_range]; omega), List.getElem?_eq_none (by rw [List.length_map, List.length_range]; omega)]
theorem itEnum {α : Type} {f : α → D} (d : α) {xs : List α} {M : Md} {N : List Str} {sc : Scope} {fc : Str → Bool} {k : Nat} {X : Cx} {ρ : Rho} {a : Expr} {p pos : Pos} {elts : List Expr} {kk : Nat} {tpos : Pos} (hX : XF M N sc fc k X) (hm : M.mg "enumerate" = none) (ha : Ev X ρ a (.sh (.lst (xs.map f))))
    (hs : starEach (a :: []) X.env = (false, eval a X.env) :: starEach [] X.env := by rfl) (hg : glB sc "enumerate" = true := by decide +kernel) : ItF X ρ (.Tuple elts kk tpos) (.Call (.Name "enumerate" p) [a] [] pos) ((List.range xs.length).map fun (i : Nat) => .tup [.int i, f (xs.getD i d)]) := by
  have := ItF.enum (elts := elts) (kk := kk) (tpos := tpos) (p := p) (pos := pos) hX hm ha hs hg
  rw [enumD_map f d xs] at this
  exact this
/-! ### restturns/answers.py: Undone, Lost; restturns/undoing.py -/
structure Tn (p : Int) (n : Nat) (t : List (List Int)) : Prop where
  rd : Round p
  n1 : 1 ≤ n
  n3 : n ≤ 3
  tab : Tab p n t
section
variable {M : Md} {CU CL : Addr}
noncomputable def gRankD (ds : List D) (t : T) : Prop := ∃ p n tab, ds = [.int p, dT tab] ∧ Tn p n tab ∧ t = tI (rankL p n tab)
theorem Tn.cl {p : Int} {n : Nat} {t : List (List Int)} (W : Tn p n t) : ClOk p n t := ⟨W.rd, by have := W.n3; omega, by rw [W.tab.len]; have := W.n3; omega, W.tab.rows⟩
theorem ok_rankD (F : FnE M "rank" s_rank P_rank) (H1 : DefOk M 5 "check_one" gCheckOne) (H2 : DefOk M 3 "rank_of" gRankOf) : DefOk M 6 "rank" gRankD := by
  refine def_okE F c_rank (fun ds t ⟨p, n, tab, h, _⟩ => by rw [h]; rfl) fun X ds t hX ⟨p, n, tab, h, W, ht⟩ => ?_
  subst h ht
  have R : Rnd p := ⟨W.rd⟩
  refine Ss.cons (Sm.expr (Ev.call hX H1 (.cons (nm hX 0) (.cons (nm hX 1) .nil)) ⟨p, tab, rfl, W.rd, W.tab.isTable W.n1 W.n3, rfl⟩) ?_)
  exact Ss.cons (Sm.ret (Ev.call hX H2 (.cons (nm hX 0) (.cons (nm hX 1) .nil)) ⟨p, tab, n, rfl, W.cl, rfl⟩) (by rw [rankG_eq R W.tab.rows]))
end
/-! ### worth -/
section
variable {M : Md} {CU CL : Addr}
theorem atI_ent {t : List (List Int)} {i j : Nat} (hi : i < t.length) (hj : j < (rowAt t i).length) : atI ((rowAt t i).map D.int) (j : Int) = some (.int (ent t i j)) := atI_getD hj
noncomputable def gWorthOf (k : Nat) (ds : List D) (t : T) : Prop := ∃ p tab, ds = [.int p, dT tab] ∧ Round p ∧ Tab p (k + 1) tab ∧ t = tI (wP p k tab)
theorem ok_worth_of0 (B : BI M.mg) (F : FnE M "worth_of" s_worth_of P_worth_of) : DefOk M 1 "worth_of" (gWorthOf 0) := by
  refine def_okE F c_worth_of (fun ds t ⟨p, tab, h, _⟩ => by rw [h]; rfl) fun X ds t hX ⟨p, tab, h, hp, htb, ht⟩ => ?_
  subst h ht
  have hl : 0 < tab.length := by rw [htb.len]; omega
  have hr := htb.row _ (rowAt_mem hl)
  refine Ss.cons (Sm.ife (q := true) (Te.of (Te.cmp CmpD.eqI (e_len hX B.len (nmS hX 1)).rd Ev.int.rd) (by rw [List.length_map, htb.len]; rfl)) (fun _ => ?_) fun h => nomatch h)
  exact Ss.cons (Sm.ret (Ev.mod (Rd.ix (Rd.ix (nmS hX 1) Ev.int.rd (atI_row hl)) Ev.int.rd (atI_ent (i := 0) (j := 0) hl (by rw [hr.1]; exact Nat.zero_lt_one))) (nmS hX 0) hp.pos) rfl)
theorem wP_lt {p : Int} (hp : 0 < p) (k : Nat) (t : List (List Int)) : 0 ≤ wP p k t ∧ wP p k t < p := by
  cases k with
  | zero => exact ⟨Int.emod_nonneg _ (by omega), Int.emod_lt_of_pos _ hp⟩
  | succ k => exact ⟨Int.emod_nonneg _ (by omega), Int.emod_lt_of_pos _ hp⟩
theorem sgn_lt (i : Nat) : -1 ≤ sgnL i ∧ sgnL i ≤ 1 := by
  unfold sgnL
  split <;> omega
theorem sgn_mul {i : Nat} {r : Int} (h : 0 ≤ r ∧ r < 7) : -8 < sgnL i * r ∧ sgnL i * r < 8 := by
  unfold sgnL
  split <;> omega
theorem ok_worth_of (B : BI M.mg) (hen : M.mg "enumerate" = none) (F : FnE M "worth_of" s_worth_of P_worth_of) : ∀ k, k ≤ 2 → DefOk M (k + 1) "worth_of" (gWorthOf k)
  | 0, _ => ok_worth_of0 B F
  | k + 1, hk => by
    have ih := ok_worth_of B hen F k (by omega)
    refine def_okE F c_worth_of (fun ds t ⟨p, tab, h, _⟩ => by rw [h]; rfl) fun X ds t hX ⟨p, tab, h, hp, htb, ht⟩ => ?_
    subst h ht
    have h7 := hp.le
    have hl : 0 < tab.length := by rw [htb.len]; omega
    have hr := htb.row _ (rowAt_mem hl)
    refine Ss.cons (Sm.ife (q := false) (Te.of (Te.cmp CmpD.eqI (e_len hX B.len (nmS hX 1)).rd Ev.int.rd) (by rw [List.length_map, htb.len]; exact decide_eq_false (by omega))) (fun h => nomatch h) fun _ => Ss.nil ?_)
    let s : Nat → Int := fun j => sm j fun i => sgnL i * ent tab 0 i * wP p k (minorL tab i)
    refine Ss.cons (Sm.set hX 2 Ev.int ?_)
    refine Ss.consP (fun ρ => ρ = [some (.sh (.int p)), some (.sh (dT tab)), some (tI (s (k + 2))), none, none, none, none])
      (Sm.forZ (xs := List.range (rowAt tab 0).length) (en := fun (i : Nat) => D.int i) (en' := fun (i : Nat) => D.int ((rowAt tab 0).getD i 0)) (fun j ρ => ρ = [some (.sh (.int p)), some (.sh (dT tab)), some (tI (s j)), none, none, none, none]) hX 3 4
        (itEnum (f := D.int) 0 hX hen (Ev.ix (nm hX 1) Ev.int.rd (atI_row hl))) rfl (fun j ρ h => by rw [h]; exact ⟨rfl, rfl⟩) (fun j i ρ hj hI => ?_) fun ρ h => by rw [List.length_range, hr.1] at h; exact h) fun ρ hρ => ?_
    · subst hI
      obtain ⟨hj', rfl⟩ := rng_at hj
      rw [hr.1] at hj'
      have he := htb.ent (i := 0) (j := i) (by omega) hj'
      have hm := minor_ok htb hj'
      have hw := wP_lt hp.pos k (minorL tab i)
      refine Ss.cons (Sm.lcN (xs := tab.drop 1) (en := dR) (g := fun row => .sh (dR (row.take i ++ row.drop (i + 1)))) hX 5 6 (ItC.list (ls_cut1 (Ev.lsS (nm hX 1)) Ev.int.rd)) (fun X' b hX' row hrow => (e_cat (f := D.int) (e_cutH (f := D.int) (xs := row) (i := (i : Int)) (Ev.lsS (nm hX' 6)) (nmS hX' 3)).lsS (e_cutL (f := D.int) (xs := row) (i := ((i + 1 : Nat) : Int)) (Ev.lsS (nm hX' 6)) ((Ev.add (i := (i : Int)) (j := 1) (nmS hX' 3) Ev.int.rd).rdI.cast (d' := .int ((i + 1 : Nat) : Int)) rfl)).lsS ?_).cast ?_) (sz (by rw [List.length_drop, htb.len]; omega)) ?_)
      · have := (htb.row row (List.mem_of_mem_drop hrow)).1
        have l1 := cutN_len row none (some (i : Int))
        have l2 := cutN_len row (some ((i + 1 : Nat) : Int)) none
        omega
      · rw [cutN_take, cutN_drop]
      refine Ss.frz 5 (d := dT (minorL tab i)) ?_ rfl (by
        show D.lst _ = D.lst _
        rw [ers_mapG _ (fun row : List Int => dR (row.take i ++ row.drop (i + 1))) fun _ => rfl]
        unfold minorL
        rw [List.map_map]
        rfl)
      have hsg := sgn_mul (i := i) (r := ent tab 0 i) ⟨he.1, by omega⟩
      refine Ss.cons (Sm.aug hX 2 ip_add (n := sgnL i * ent tab 0 i * wP p k (minorL tab i)) ?_ (Ss.drop 3 (Ss.drop 4 (Ss.drop 5 (Ss.nil ?_)))))
      · refine (Ev.mul (i := sgnL i * ent tab 0 i) (j := wP p k (minorL tab i)) (Ev.rdI (Ev.mul (i := sgnL i) (j := ent tab 0 i) (Ev.rdI (Ev.ifx (t := tI (sgnL i)) (p := decide (i % 2 = 0)) (Te.of (Te.cmp CmpD.eqI (Ev.mod (nmS hX 3) Ev.int.rd (by decide)).rd Ev.int.rd) ?_) (fun hq => Ev.int.cast ?_) fun hq => (Ev.neg Ev.int.rd).cast ?_)) (nmS hX 4) (.inl (by have := sgn_lt i; omega)))) (Ev.rdI (Ev.call hX ih (.cons (nm hX 0) (.cons (nm hX 5) .nil)) ⟨p, _, rfl, hp, hm, rfl⟩ (by omega))) (.inl (by omega))).rdI
        · by_cases e : i % 2 = 0
          · rw [decide_eq_true e, decide_eq_true (by omega)]
          · rw [decide_eq_false e, decide_eq_false (by omega)]
        · show tI 1 = tI (sgnL i)
          unfold sgnL
          rw [if_pos (of_decide_eq_true hq)]
        · show tI (-1) = tI (sgnL i)
          unfold sgnL
          rw [if_neg (of_decide_eq_false hq)]
      · show [_, _, some (tI (s i + _)), _, _, _, _] = [_, _, some (tI (s (i + 1))), _, _, _, _]
        rw [show s (i + 1) = s i + sgnL i * ent tab 0 i * wP p k (minorL tab i) from sm_succ _ _]
    · subst hρ
      exact Ss.cons (Sm.ret (Ev.mod (nmS hX 2) (nmS hX 0) hp.pos) rfl)
noncomputable def gWorthD (ds : List D) (t : T) : Prop := ∃ p n tab, ds = [.int p, dT tab] ∧ Tn p n tab ∧ t = tI (wI (n - 1) tab % p)
theorem ok_worth (B : BI M.mg) (hen : M.mg "enumerate" = none) (F : FnE M "worth" s_worth P_worth) (F2 : FnE M "worth_of" s_worth_of P_worth_of) (H1 : DefOk M 5 "check_one" gCheckOne) : DefOk M 6 "worth" gWorthD := by
  refine def_okE F c_worth (fun ds t ⟨p, n, tab, h, _⟩ => by rw [h]; rfl) fun X ds t hX ⟨p, n, tab, h, W, ht⟩ => ?_
  subst h ht
  have n1 := W.n1
  have n3 := W.n3
  have H2 := ok_worth_of B hen F2 (n - 1) (by omega)
  refine Ss.cons (Sm.expr (Ev.call hX H1 (.cons (nm hX 0) (.cons (nm hX 1) .nil)) ⟨p, tab, rfl, W.rd, W.tab.isTable W.n1 W.n3, rfl⟩) ?_)
  refine Ss.cons (Sm.ret (Ev.call hX H2 (.cons (nm hX 0) (.cons (nm hX 1) .nil)) ⟨p, tab, rfl, W.rd, by rw [show n - 1 + 1 = n from by omega]; exact W.tab, rfl⟩ (by omega)) ?_)
  rw [wP_wI]
end
/-! ### restturns/turns.py; answers.py: primes_in, Back -/
noncomputable abbrev keyT (t : Tb) : Key := .inr (tabText t)
theorem Tab.rw7 {p : Int} {n : Nat} (hp : Round p) {t : Tb} (h : Tab p n t) : ∀ r ∈ t, r.length = n ∧ ∀ x ∈ r, 0 ≤ x ∧ x < 7 := fun r hr => ⟨(h.row r hr).1, fun x hx => by
  have := (h.row r hr).2 x hx
  have := hp.le
  omega⟩
section
variable {M : Md} {CU CL CB : Addr}
end
/-! ### the program's answers: Word, Without -/
/-- what the tables of the numbers make -/
noncomputable def wordL (p : Int) (ts : List (List (List Int))) : List Int → List (List Int) → Option (List (List Int))
  | [], here => some here
  | x :: xs, here => if 0 ≤ x ∧ x < (ts.length : Int) then wordL p ts xs (behindL p here (ts.getD x.toNat [])) else none
section
variable {M : Md} {CW CN : Addr}
theorem atI_T {ts : List (List (List Int))} {x : Int} (h : 0 ≤ x ∧ x < (ts.length : Int)) : atI (ts.map dT) x = some (dT (ts.getD x.toNat [])) := by
  have := atI_nat (xs := ts.map dT) (j := x.toNat) (v := dT (ts.getD x.toNat [])) (by rw [List.getElem?_map, getD_some (show x.toNat < ts.length by omega) []]; rfl)
  rw [Int.toNat_of_nonneg h.1] at this
  exact this
end
/-! ### what tables make, with words -/
noncomputable abbrev Wd := Tb × List Int
noncomputable def tbs (W : List Wd) : List Tb := W.map (·.1)
noncomputable def addW (st : List Wd × List Wd) (q : Wd) : List Wd × List Wd := if inB q.1 (tbs st.1) then st else (st.1 ++ [q], st.2 ++ [q])
noncomputable def extW (p : Int) (ts : List Tb) (h : Wd) : List Wd := (List.range ts.length).map fun i => (behindL p h.1 (ts.getD i []), h.2 ++ [(i : Int)])
noncomputable def prodW (p : Int) (ts : List Tb) (line : List Wd) : List Wd := (line.map (extW p ts)).flatten
noncomputable def levelW (p : Int) (ts : List Tb) (met line : List Wd) : List Wd × List Wd := (prodW p ts line).foldl addW (met, [])
noncomputable def wordsM (p : Int) (ts : List Tb) : Nat → List Wd → List Wd → List Wd
  | 0, met, _ => met
  | g + 1, met, line => if line = [] then met else wordsM p ts g (levelW p ts met line).1 (levelW p ts met line).2
noncomputable def wordsL (p : Int) (n : Nat) (ts : List Tb) : List Wd := wordsM p ts (needM (tabsA p n n) [[unitL n]] [unitL n]) [(unitL n, [])] [(unitL n, [])]
theorem range_get {α : Type} (d : α) : ∀ xs : List α, (List.range xs.length).map (fun i => xs.getD i d) = xs := fun xs => by
  refine List.ext_getElem? fun i => ?_
  rw [List.getElem?_map]
  by_cases h : i < xs.length
  · rw [List.getElem?_range h, List.getElem?_eq_getElem h]
    show some (xs.getD i d) = _
    rw [List.getD_eq_getElem?_getD, List.getElem?_eq_getElem h]
    rfl
  · rw [List.getElem?_eq_none (by rw [List.length_range]; omega), List.getElem?_eq_none (by omega)]
    rfl
theorem addW_1 (st : List Wd × List Wd) (q : Wd) : tbs (addW st q).1 = (addM (tbs st.1, tbs st.2) q.1).1 ∧ tbs (addW st q).2 = (addM (tbs st.1, tbs st.2) q.1).2 := by
  unfold addW addM
  split
  · exact ⟨rfl, rfl⟩
  · unfold tbs
    rw [List.map_append, List.map_append]
    exact ⟨rfl, rfl⟩
theorem foldW : ∀ (qs : List Wd) (st : List Wd × List Wd), tbs (qs.foldl addW st).1 = ((tbs qs).foldl addM (tbs st.1, tbs st.2)).1 ∧ tbs (qs.foldl addW st).2 = ((tbs qs).foldl addM (tbs st.1, tbs st.2)).2
  | [], st => ⟨rfl, rfl⟩
  | q :: qs, st => by
    have h := foldW qs (addW st q)
    rw [(addW_1 st q).1, (addW_1 st q).2] at h
    exact h
theorem ext_tbs (p : Int) (ts : List Tb) (h : Wd) : tbs (extW p ts h) = ts.map (behindL p h.1) := by
  unfold tbs extW
  rw [List.map_map]
  have e := congrArg (List.map (behindL p h.1)) (range_get [] ts)
  rw [List.map_map] at e
  exact e
theorem prod_tbs (p : Int) (ts : List Tb) (line : List Wd) : tbs (prodW p ts line) = prodM p ts (tbs line) := by
  unfold prodW prodM tbs
  rw [List.map_flatten, List.map_map, List.map_map]
  congr 1
  exact List.map_congr_left fun h _ => ext_tbs p ts h
theorem level_tbs (p : Int) (ts : List Tb) (met line : List Wd) : tbs (levelW p ts met line).1 = (levelM p ts (tbs met) (tbs line)).1 ∧ tbs (levelW p ts met line).2 = (levelM p ts (tbs met) (tbs line)).2 := by
  have := foldW (prodW p ts line) (met, [])
  rw [prod_tbs] at this
  exact this
/-- what stands while a level is made -/
structure MidW (met0 : List Wd) (P : Wd → Prop) (st : List Wd × List Wd) : Prop where
  met : st.1 = met0 ++ st.2
  nd : (tbs st.1).Nodup
  ok : ∀ q ∈ st.2, P q
theorem MidW.add {met0 : List Wd} {P : Wd → Prop} {st : List Wd × List Wd} (h : MidW met0 P st) {q : Wd} (hq : P q) : MidW met0 P (addW st q) ∧ q.1 ∈ tbs (addW st q).1 ∧ ∀ x ∈ tbs st.1, x ∈ tbs (addW st q).1 := by
  unfold addW
  split
  · rename_i z
    exact ⟨h, inB_iff.mp z, fun x hx => hx⟩
  · rename_i z
    have z' : q.1 ∉ tbs st.1 := fun w => z (inB_iff.mpr w)
    have e : tbs (st.1 ++ [q]) = tbs st.1 ++ [q.1] := by unfold tbs; rw [List.map_append]; rfl
    refine ⟨⟨by show st.1 ++ [q] = met0 ++ (st.2 ++ [q]); rw [h.met, List.append_assoc], ?_, fun x hx => ?_⟩, ?_, fun x hx => ?_⟩
    · show (tbs (st.1 ++ [q])).Nodup
      rw [e, List.nodup_append]
      refine ⟨h.nd, List.nodup_cons.mpr ⟨(fun h => nomatch h), List.nodup_nil⟩, fun a ha b hb w => z' ?_⟩
      rw [← List.mem_singleton.mp hb, ← w]
      exact ha
    · rcases List.mem_append.mp hx with w | w
      · exact h.ok x w
      · rw [List.mem_singleton.mp w]
        exact hq
    · show q.1 ∈ tbs (st.1 ++ [q])
      rw [e]
      exact List.mem_append_right _ (List.mem_singleton_self _)
    · show x ∈ tbs (st.1 ++ [q])
      rw [e]
      exact List.mem_append_left _ hx
theorem MidW.fold {met0 : List Wd} {P : Wd → Prop} : ∀ {qs : List Wd} {st : List Wd × List Wd}, MidW met0 P st → (∀ q ∈ qs, P q) → MidW met0 P (qs.foldl addW st) ∧ (∀ q ∈ qs, q.1 ∈ tbs (qs.foldl addW st).1) ∧ ∀ x ∈ tbs st.1, x ∈ tbs (qs.foldl addW st).1
  | [], st, h, _ => ⟨h, (fun _ h => nomatch h), fun x hx => hx⟩
  | q :: qs, st, h, hq => by
    obtain ⟨a1, a2, a3⟩ := h.add (hq q (List.mem_cons_self ..))
    obtain ⟨b1, b2, b3⟩ := MidW.fold a1 fun x hx => hq x (List.mem_cons_of_mem _ hx)
    refine ⟨b1, fun x hx => ?_, fun x hx => b3 x (a3 x hx)⟩
    rcases List.mem_cons.mp hx with e | e
    · rw [e]
      exact b3 _ a2
    · exact b2 x e
/-- what stands between the levels -/
structure WI (p : Int) (n : Nat) (ts : List Tb) (levels : List (List Tb)) (W line : List Wd) : Prop where
  ne : 0 < levels.length
  flat : tbs W = levels.flatten
  last : tbs line = lastM levels
  word : ∀ q ∈ W, wordL p ts q.2 (unitL n) = some q.1 ∧ q.1 ∈ levels.getD q.2.length []
  lword : ∀ q ∈ line, q ∈ W ∧ q.2.length + 1 = levels.length
  nd : (tbs W).Nodup
  closed : ∀ i, i + 1 < levels.length → ∀ q ∈ levels.getD i [], ∀ t ∈ ts, behindL p q t ∈ tbs W
theorem wordL_snoc (p : Int) (ts : List Tb) (i : Int) : ∀ (xs : List Int) (here : Tb), wordL p ts (xs ++ [i]) here = (wordL p ts xs here).bind fun h => if 0 ≤ i ∧ i < (ts.length : Int) then some (behindL p h (ts.getD i.toNat [])) else none
  | [], here => by
    show (if _ then _ else _) = (if _ then _ else _)
    split <;> rfl
  | x :: xs, here => by
    show (if _ then wordL p ts (xs ++ [i]) _ else none) = (if _ then wordL p ts xs _ else none).bind _
    split
    · exact wordL_snoc p ts i xs _
    · rfl
theorem getD_len {α : Type} {xs : List (List α)} {i : Nat} {x : α} (h : x ∈ xs.getD i []) : i < xs.length := by
  refine Nat.lt_of_not_le fun z => ?_
  rw [List.getD_eq_getElem?_getD, List.getElem?_eq_none z] at h
  cases h
theorem getD_snoc_old {α : Type} {xs : List (List α)} {l : List α} {i : Nat} (h : i < xs.length) : (xs ++ [l]).getD i [] = xs.getD i [] := by
  rw [List.getD_eq_getElem?_getD, List.getElem?_append_left h, ← List.getD_eq_getElem?_getD]
theorem getD_snoc_new {α : Type} {xs : List (List α)} {l : List α} : (xs ++ [l]).getD xs.length [] = l := by
  rw [List.getD_eq_getElem?_getD, List.getElem?_append_right (Nat.le_refl _), Nat.sub_self]
  rfl
theorem WI.step {p : Int} {n : Nat} {ts : List Tb} {levels : List (List Tb)} {W line : List Wd} (h : WI p n ts levels W line) : WI p n ts (levels ++ [tbs (levelW p ts W line).2]) (levelW p ts W line).1 (levelW p ts W line).2 ∧
    ∀ q ∈ tbs W, q ∈ tbs (levelW p ts W line).1 := by
  have hP : ∀ q ∈ prodW p ts line, ∃ b ∈ line, ∃ i, i < ts.length ∧ q = (behindL p b.1 (ts.getD i []), b.2 ++ [(i : Int)]) := fun q hq => by
    obtain ⟨l, h1, h2⟩ := List.mem_flatten.mp hq
    obtain ⟨b, hb, rfl⟩ := List.mem_map.mp h1
    obtain ⟨i, hi, rfl⟩ := List.mem_map.mp h2
    exact ⟨b, hb, i, List.mem_range.mp hi, rfl⟩
  obtain ⟨m, f1, f2⟩ := MidW.fold (met0 := W) (P := fun q => ∃ b ∈ line, ∃ i, i < ts.length ∧ q = (behindL p b.1 (ts.getD i []), b.2 ++ [(i : Int)])) (st := (W, [])) ⟨(List.append_nil W).symm, h.nd, (fun _ h => nomatch h)⟩ hP
  change MidW W _ (levelW p ts W line) at m
  change ∀ q ∈ prodW p ts line, q.1 ∈ tbs (levelW p ts W line).1 at f1
  change ∀ x ∈ tbs W, x ∈ tbs (levelW p ts W line).1 at f2
  generalize levelW p ts W line = st at m f1 f2
  have e1 : tbs st.1 = tbs W ++ tbs st.2 := by rw [m.met]; exact List.map_append
  refine ⟨⟨by rw [List.length_append]; exact Nat.succ_pos _, ?_, (lastM_app _ _).symm, fun q hq => ?_, fun q hq => ?_, m.nd, fun i hi q hq t ht => ?_⟩, f2⟩
  · rw [e1, h.flat, List.flatten_append]
    simp
  · rw [m.met] at hq
    rcases List.mem_append.mp hq with z | z
    · obtain ⟨w1, w2⟩ := h.word q z
      exact ⟨w1, by rw [getD_snoc_old (getD_len w2)]; exact w2⟩
    · obtain ⟨b, hb, i, hi, e⟩ := m.ok q z
      obtain ⟨b1, b2⟩ := h.lword b hb
      obtain ⟨w1, _⟩ := h.word b b1
      have el : q.2.length = levels.length := by
        rw [e, ← b2]
        show (b.2 ++ [(i : Int)]).length = _
        rw [List.length_append]
        rfl
      refine ⟨?_, by rw [el, getD_snoc_new]; exact List.mem_map.mpr ⟨q, z, rfl⟩⟩
      rw [e]
      show wordL p ts (b.2 ++ [(i : Int)]) (unitL n) = some (behindL p b.1 (ts.getD i []))
      rw [wordL_snoc, w1, Option.bind_some, if_pos (by omega)]
      rfl
  · obtain ⟨b, hb, i, hi, e⟩ := m.ok q hq
    obtain ⟨_, b2⟩ := h.lword b hb
    refine ⟨by rw [m.met]; exact List.mem_append_right _ hq, ?_⟩
    rw [e]
    show (b.2 ++ [(i : Int)]).length + 1 = _
    rw [List.length_append, List.length_append, ← b2]
    rfl
  · rw [List.length_append] at hi
    have hi : i < levels.length := Nat.lt_of_succ_lt_succ hi
    rw [getD_snoc_old hi] at hq
    by_cases e : i + 1 < levels.length
    · exact f2 _ (h.closed i e q hq t ht)
    · have : levels.getD i [] = tbs line := by
        rw [h.last]
        unfold lastM
        rw [show levels.length - 1 = i from by omega]
      rw [this] at hq
      obtain ⟨b, hb, rfl⟩ := List.mem_map.mp hq
      obtain ⟨j, hj, e⟩ := List.mem_iff_getElem.mp ht
      have e2 : ts.getD j [] = t := by rw [List.getD_eq_getElem?_getD, List.getElem?_eq_getElem hj]; exact e
      have := f1 (behindL p b.1 (ts.getD j []), b.2 ++ [(j : Int)]) (List.mem_flatten.mpr ⟨_, List.mem_map.mpr ⟨b, hb, rfl⟩, List.mem_map.mpr ⟨j, List.mem_range.mpr hj, rfl⟩⟩)
      rw [e2] at this
      exact this
theorem WI.start (p : Int) (n : Nat) (ts : List Tb) : WI p n ts [[unitL n]] [(unitL n, [])] [(unitL n, [])] :=
  ⟨Nat.zero_lt_one, rfl, rfl, fun q hq => by rw [List.mem_singleton.mp hq]; exact ⟨rfl, List.mem_singleton_self _⟩, fun q hq => ⟨hq, by rw [List.mem_singleton.mp hq]; rfl⟩, List.nodup_cons.mpr ⟨(fun h => nomatch h), List.nodup_nil⟩, fun i hi => absurd hi (by show ¬ i + 1 < 1; omega)⟩
/-! ### words: sizes -/
theorem addW_len (st : List Wd × List Wd) (q : Wd) : st.1.length ≤ (addW st q).1.length ∧ st.2.length + (addW st q).1.length = (addW st q).2.length + st.1.length := by
  unfold addW
  split
  · exact ⟨Nat.le_refl _, rfl⟩
  · rw [List.length_append, List.length_append]
    exact ⟨Nat.le_add_right _ _, by omega⟩
theorem foldW_len : ∀ (qs : List Wd) (st : List Wd × List Wd), st.1.length ≤ (qs.foldl addW st).1.length ∧ st.2.length + (qs.foldl addW st).1.length = (qs.foldl addW st).2.length + st.1.length
  | [], st => ⟨Nat.le_refl _, rfl⟩
  | q :: qs, st => by
    have h := foldW_len qs (addW st q)
    have := addW_len st q
    rw [List.foldl_cons]
    omega
theorem foldW_pre (a b : List Wd) (st : List Wd × List Wd) : (a.foldl addW st).1.length ≤ ((a ++ b).foldl addW st).1.length := by
  rw [List.foldl_append]
  exact (foldW_len b _).1
theorem wordsM_len (p : Int) (ts : List Tb) : ∀ (g : Nat) (W line : List Wd), W.length ≤ (wordsM p ts g W line).length
  | 0, W, line => Nat.le_refl _
  | g + 1, W, line => by
    show _ ≤ (if line = [] then W else wordsM p ts g (levelW p ts W line).1 (levelW p ts W line).2).length
    split
    · exact Nat.le_refl _
    · exact Nat.le_trans (foldW_len (prodW p ts line) (W, [])).1 (wordsM_len p ts g _ _)
/-! ### groups.py -/
structure CG (M : Md) : Prop where
  most : ∃ t, M.mg "MOST_MADE" = some (.int 200 t)
/-- tables that can be undone -/
structure GsOk (p : Int) (n : Nat) (ts : List Tb) : Prop where
  rd : Round p
  n1 : 1 ≤ n
  n3 : n ≤ 3
  ne : ts ≠ []
  l3 : ts.length ≤ 3
  tab : ∀ t ∈ ts, Tab p n t
  full : ∀ t ∈ ts, rankL p n t = n
noncomputable abbrev dwF (H0 : Hp) (w : Wd) : D := .tup [.frT H0 w.1, dR w.2]
noncomputable def metW (H0 : Hp) (W : List Wd) : List (Key × D) := W.map fun w => (keyT w.1, dwF H0 w)
theorem metW_val {p : Int} {n : Nat} (hp : Round p) {H0 : Hp} {x : Tb} (hx : Tab p n x) : ∀ {W : List Wd}, (∀ w ∈ W, Tab p n w.1) → valD (metW H0 W) (keyT x) = (W.find? fun w => decide (w.1 = x)).map (dwF H0)
  | [], _ => rfl
  | w :: W, h => by
    have hw := h w (List.mem_cons_self ..)
    show valD ((keyT w.1, dwF H0 w) :: metW H0 W) (keyT x) = _
    have ih := metW_val hp (H0 := H0) hx fun v hv => h v (List.mem_cons_of_mem _ hv)
    unfold valD at ih ⊢
    by_cases e : w.1 = x
    · rw [List.find?_cons_of_pos (by simp [e]), List.find?_cons_of_pos (by simp [e])]
      rfl
    · have ne : keyT w.1 ≠ keyT x := fun z => e (tabText_inj hw.len hx.len (hw.rw7 hp) (hx.rw7 hp) (Sum.inr.inj z))
      rw [List.find?_cons_of_neg (by simpa using ne), List.find?_cons_of_neg (by simpa using e)]
      exact ih
theorem find_none {x : Tb} {W : List Wd} : (W.find? fun w => decide (w.1 = x)) = none ↔ inB x (tbs W) = false := by
  rw [List.find?_eq_none, inB_no]
  unfold tbs
  rw [List.mem_map]
  constructor
  · rintro h ⟨w, hw, e⟩
    exact h w hw (decide_eq_true e)
  · rintro h w hw e
    exact h ⟨w, hw, of_decide_eq_true e⟩
theorem eqb_nil (ds : List D) : eqb (.lst ds) (.lst []) = decide (ds = []) := by
  cases ds with
  | nil => rfl
  | cons d ds => rfl
theorem ok_dwF (H0 : Hp) (w : Wd) : Ok 3 (dwF H0 w) := ok_tup (n := 2) fun d hd => by
  simp only [List.mem_cons, List.not_mem_nil, or_false] at hd
  rcases hd with rfl | rfl
  · refine ⟨rfl, ?_⟩
    have : py (.frT H0 w.1) = py (dT w.1) := by
      show PyData.list (w.1.map fun r => .list (r.map PyData.int)) = PyData.list (pys (w.1.map dR))
      congr 1
      rw [pys_map]
      refine List.map_congr_left fun r _ => ?_
      show PyData.list (r.map PyData.int) = PyData.list (pys (r.map D.int))
      congr 1
      rw [pys_map]
      rfl
    rw [this]
    exact (ok_dT w.1).2
  · exact (ok_dR w.2).mono (by decide)
theorem GsOk.a0 {p : Int} {n : Nat} {ts : List Tb} (h : GsOk p n ts) : atI (ts.map dT) 0 = some (dT (ts.getD 0 [])) ∧ (ts.getD 0 []).length = n := by
  have hz : 0 < ts.length := List.length_pos_iff.mpr h.ne
  exact ⟨atI_T (x := 0) (by omega), (h.tab _ (getD_mem [] hz)).len⟩
section
variable {M : Md} {CW CN : Addr}
theorem e_mostM {N : List Str} {sc : Scope} {fc : Str → Bool} {k : Nat} {X : Cx} {ρ : Rho} {p : Pos} (hX : XF M N sc fc k X) (C : CG M) (hg : glB sc "MOST_MADE" = true := by decide +kernel) : Ev X ρ (.Name "MOST_MADE" p) (.sh (.int 200)) := by
  obtain ⟨t, h1⟩ := C.most
  exact Ev.glob (v := .int 200) (hX.gl hg).1 (by rw [hX.m]; exact h1) ⟨t, rfl⟩ trivial fun H => .int 200
noncomputable def gCheckTs (ds : List D) (t : T) : Prop := ∃ p n ts, ds = [.int p, dTs ts] ∧ GsOk p n ts ∧ t = .sh .non
theorem ok_check_tables (B : BI M.mg) (hany : M.mg "any" = none) (C : CM M) (F : FnE M "check_tables" s_check_tables P_check_tables) (H1 : DefOk M 2 "check_round" gRound) (H2 : DefOk M 3 "is_table" gIsTable) (H3 : DefOk M 3 "rank_of" gRankOf) : DefOk M 4 "check_tables" gCheckTs := by
  refine def_okE F c_check_tables (fun ds t ⟨p, n, ts, h, _⟩ => by rw [h]; rfl) fun X ds t hX ⟨p, n, ts, h, W, ht⟩ => ?_
  subst h ht
  have l1 : 0 < ts.length := List.length_pos_iff.mpr W.ne
  have l3 := W.l3
  have n3 := W.n3
  have R : Rnd p := ⟨W.rd⟩
  obtain ⟨a0, h0⟩ := W.a0
  refine Ss.cons (Sm.expr (Ev.call hX H1 (.cons (nm hX 0) .nil) ⟨p, rfl, W.rd, rfl⟩) ?_)
  refine Ss.cons (Sm.ife (q := false) (Te.of (Tw.te (Tw.or (p := false) (Te.not (p := true) (Te.val (e_isi hX B.isinstance B.list PyProof.Rows.boot_list (nmS hX 1) rfl (by decide +kernel)))) fun _ => Tw.or1 (Te.not (Te.chain CmpD.le CmpD.le Ev.int.rd (e_len hX B.len (nmS hX 1)).rd (e_most hX C).rd)))) ?_) (fun h => nomatch h) fun _ => Ss.nil ?_)
  · rw [List.length_map, decide_eq_true (by omega), decide_eq_true (by omega)]
    rfl
  refine Ss.cons (Sm.ife (q := false) (Te.of (Te.not (Te.val (e_allC (xs := ts) (f := fun t => isTable p t) hX B.all (lcN (xs := ts) (en := dT) hX 2 (ItC.list (Ev.lsS (nm hX 1))) (fun X' b hX' t ht => Ev.call hX' H2 (.cons (nm hX' 0) (.cons (nm hX' 2) .nil)) ⟨p, t, rfl, by rw [(W.tab t ht).len]; omega, fun r hr => by rw [((W.tab t ht).row r hr).1]; omega, rfl⟩) (sz (by omega)))))) ?_) (fun h => nomatch h) fun _ => Ss.nil ?_)
  · rw [Bool.not_eq_false', List.all_eq_true]
    exact fun t ht => (W.tab t ht).isTable W.n1 W.n3
  refine Ss.cons (Sm.ife (q := false) (Te.of (Te.val (e_anyC (xs := ts) (f := fun t => !decide ((t.length : Int) = (n : Int))) hX hany (lcN (xs := ts) (en := dT) hX 2 (ItC.list (Ev.lsS (nm hX 1))) (fun X' b hX' t ht => (Ev.cmp CmpD.neI (e_len hX' B.len (nmS hX' 2)).rd (e_len hX' B.len (Rd.ix (nmS hX' 1) Ev.int.rd a0)).rd).cast (by rw [List.length_map, List.length_map, h0])) (sz (by omega))))) ?_) (fun h => nomatch h) fun _ => Ss.nil ?_)
  · rw [List.any_eq_false]
    intro t ht
    rw [(W.tab t ht).len, decide_eq_true rfl]
    exact Bool.false_ne_true
  refine Ss.cons (Sm.ife (q := false) (Te.of (Te.val (e_anyC (xs := ts) (f := fun t => decide ((rankL p n t : Int) < (n : Int))) hX hany (lcN (xs := ts) (en := dT) hX 2 (ItC.list (Ev.lsS (nm hX 1))) (fun X' b hX' t ht => (Ev.cmp CmpD.lt (Ev.rdI (Ev.call hX' H3 (.cons (nm hX' 0) (.cons (nm hX' 2) .nil)) ⟨p, t, n, rfl, ⟨W.rd, by omega, by rw [(W.tab t ht).len]; omega, (W.tab t ht).rows⟩, rfl⟩)) (e_len hX' B.len (nmS hX' 2)).rd).cast (by rw [List.length_map, (W.tab t ht).len, rankG_eq R (W.tab t ht).rows])) (sz (by omega))))) ?_) (fun h => nomatch h) fun _ => Ss.nil (Ss.nil rfl))
  rw [List.any_eq_false]
  intro t ht
  rw [W.full t ht, decide_eq_false (by omega)]
  exact Bool.false_ne_true
noncomputable def gWords (ds : List D) (t : T) : Prop := ∃ H0 p n ts, ds = [.wit H0 p, dTs ts] ∧ GsOk p n ts ∧ (wordsL p n ts).length ≤ 200 ∧ t = .lst ((wordsL p n ts).map fun w => .sh (dwF H0 w))
theorem ok_words_of (B : BI M.mg) (hstr : M.mg "str" = none) (hen : M.mg "enumerate" = none) (C : CG M) (F : FnE M "words_of" s_words_of P_words_of) (H1 : DefOk M 1 "unit_of" gUnit) (H2 : DefOk M 2 "behind_of" gBehindOf) : DefOk M 4 "words_of" gWords := by
  refine def_okE F c_words_of (fun ds t ⟨H0, p, n, ts, h, _⟩ => by rw [h]; rfl) fun X ds t hX ⟨H0, p, n, ts, h, G, hz, ht⟩ => ?_
  subst h ht
  have n1 := G.n1
  have n3 := G.n3
  have hp := G.rd
  have hp0 := hp.pos
  have l3 := G.l3
  obtain ⟨a0, h0⟩ := G.a0
  have hAll : ∀ q, Tab p n q → q ∈ tabsA p n n := fun q h => h.all
  have hU := unitL_ok hp.two n
  refine Ss.cons (Sm.set hX 2 (Ev.list (.cons (Ev.tup (.cons (Ev.fzF (H0 := H0) (n := p) 0 (Ev.call hX H1 (.cons (e_len hX B.len (Rd.ix (nmS hX 1) Ev.int.rd a0)) .nil) ⟨n, by rw [List.length_map, h0]; rfl, by omega, rfl⟩)) (.cons (fzE (d := dR []) (Ev.list .nil) rfl) .nil))) .nil)) (Ss.frz 2 (d := .lst ([((unitL n, []) : Wd)].map (dwF H0))) ?_ rfl rfl))
  refine Ss.cons (Sm.set hX 3 Ev.dic0 ?_)
  refine Ss.cons (Sm.dput hX 3 (ds := []) (d := dwF H0 (unitL n, [])) (Ev.ix (nm hX 2) Ev.int.rd rfl) (e_strT hX hstr n3 hU.len (hU.rw7 hp) (Rd.unf (H0 := H0) (Rd.ixT (Rd.ix (nmS hX 2) Ev.int.rd rfl) Ev.int.rd rfl))).rd rfl (by show 0 < 1000; decide) ?_)
  obtain ⟨g, hg1, hg2⟩ : ∃ g, needM (tabsA p n n) [[unitL n]] [unitL n] ≤ g ∧ wordsM p ts g [(unitL n, [])] [(unitL n, [])] = wordsL p n ts := ⟨_, Nat.le_refl _, rfl⟩
  refine Ss.consP (fun ρ => ∃ o4 l2, ρ = [some (.sh (.wit H0 p)), some (.sh (dTs ts)), some (.sh l2), some (.dic (metW H0 (wordsL p n ts))), o4, none, none, none, none, none])
    (Sm.while hX (fun m ρ => ∃ levels W line g o4, m = needM (tabsA p n n) levels (tbs W) ∧ StM p n (tabsA p n n) (1 + (tabsA p n n).length) levels (tbs W) ∧ WI p n ts levels W line ∧ m ≤ g ∧ (line ≠ [] → levels.length ≤ W.length) ∧ wordsM p ts g W line = wordsL p n ts ∧ ρ = [some (.sh (.wit H0 p)), some (.sh (dTs ts)), some (.sh (.lst (line.map (dwF H0)))), some (.dic (metW H0 W)), o4, none, none, none, none, none])
      ⟨_, [[unitL n]], [(unitL n, [])], [(unitL n, [])], g, none, rfl, st0 hp.two n, WI.start p n ts, hg1, fun _ => Nat.le_refl 1, hg2, rfl⟩ fun m ρ ⟨levels, W, line, g, o4, hm, st, wi, hg, hlw, hv, hρ⟩ => ?_) fun ρ ⟨o4, l2, hρ⟩ => ?_
  · subst hρ
    refine ⟨_, Te.of (Te.cmp (CmpD.ne hX.room (ok_lst (n := 3) fun d hd => by obtain ⟨w, _, rfl⟩ := List.mem_map.mp hd; exact ok_dwF H0 w) (ok_lst (n := 3) (ds := []) fun d hd => nomatch hd)) (nmS hX 2) (Ev.list .nil).rd) (by rw [eqb_nil]), fun hc => ?_, fun hc => ?_⟩
    · have hl : line ≠ [] := fun z => by
        rw [z] at hc
        cases hc
      have hll : lastM levels ≠ [] := fun z => hl (by
        have := wi.last
        rw [z] at this
        exact List.map_eq_nil_iff.mp this)
      obtain ⟨g', rfl⟩ : ∃ g', g = g' + 1 := ⟨g - 1, by
        have : needM (tabsA p n n) levels (tbs W) = cntM (tabsA p n n) (tbs W) + 1 := if_neg hll
        omega⟩
      have hv' : wordsM p ts g' (levelW p ts W line).1 (levelW p ts W line).2 = wordsL p n ts := by
        rw [← hv]
        show _ = if line = [] then W else _
        rw [if_neg hl]
      have hstep := st.step hp0 hAll G.tab hll
      have ws := wi.step.1
      have e1 := level_tbs p ts W line
      rw [wi.last] at e1
      have lenL : (levelW p ts W line).1.length ≤ 200 := by
        have := wordsM_len p ts g' (levelW p ts W line).1 (levelW p ts W line).2
        rw [hv'] at this
        omega
      have hW : ∀ w ∈ W, Tab p n w.1 := fun w hw => by
        have : w.1 ∈ tbs W := List.mem_map_of_mem hw
        rw [wi.flat] at this
        obtain ⟨l, q1, q2⟩ := List.mem_flatten.mp this
        exact st.lv l q1 _ q2
      have hline : ∀ w ∈ line, Tab p n w.1 := fun w hw => hW w (wi.lword w hw).1
      have fold_tab : ∀ qs : List Wd, (∀ q ∈ qs, Tab p n q.1) → (∀ w ∈ (qs.foldl addW (W, [])).1, Tab p n w.1) ∧ ∀ w ∈ (qs.foldl addW (W, [])).2, w ∈ (qs.foldl addW (W, [])).1 := fun qs hq => by
        have M0 : MidW W (fun q => Tab p n q.1) (W, []) := ⟨(List.append_nil W).symm, wi.nd, fun q h => nomatch h⟩
        have M1 := (M0.fold hq).1
        refine ⟨fun w hw => ?_, fun w hw => ?_⟩
        · rw [M1.met] at hw
          exact (List.mem_append.mp hw).elim (hW w) (M1.ok w)
        · rw [M1.met]
          exact List.mem_append_right _ hw
      have ext_tab : ∀ h : Wd, Tab p n h.1 → ∀ q ∈ extW p ts h, Tab p n q.1 := fun h hh q hq => by
        obtain ⟨i, hi, rfl⟩ := List.mem_map.mp hq
        exact behindL_ok hp0 hh.len (G.tab _ (getD_mem [] (List.mem_range.mp hi))).len
      have prod_tab : ∀ ls : List Wd, (∀ w ∈ ls, Tab p n w.1) → ∀ q ∈ prodW p ts ls, Tab p n q.1 := fun ls hls q hq => by
        obtain ⟨l, q1, q2⟩ := List.mem_flatten.mp hq
        obtain ⟨h, hh, rfl⟩ := List.mem_map.mp q1
        exact ext_tab h (hls h hh) q q2
      refine Ss.cons (Sm.set hX 4 (Ev.list .nil) ?_)
      let ρ1 : List Wd × List Wd → Rho := fun s => [some (.sh (.wit H0 p)), some (.sh (dTs ts)), some (.sh (.lst (line.map (dwF H0)))), some (.dic (metW H0 s.1)), some (.lst (s.2.map fun w => T.sh (dwF H0 w))), none, none, none, none, none]
      refine Ss.consP (fun ρ => ρ = ρ1 (levelW p ts W line))
        (Sm.forZ (xs := line) (en := fun w => .frT H0 w.1) (en' := fun w => dR w.2) (fun j ρ => ρ = ρ1 ((prodW p ts (line.take j)).foldl addW (W, []))) hX 5 6
          (ItF.list (nm hX 2)) rfl (fun j ρ h => by rw [h]; exact ⟨rfl, rfl⟩) (fun j h ρ hj hI => ?_) fun ρ h => by rw [List.take_length] at h; exact h) fun ρ hρ => ?_
      · subst hI
        have hh := hline h (List.mem_of_getElem? hj)
        have e2 : prodW p ts (line.take (j + 1)) = prodW p ts (line.take j) ++ extW p ts h := by
          unfold prodW
          rw [List.take_add_one, hj, List.map_append, List.flatten_append]
          simp
        have e3 : levelW p ts W line = (prodW p ts (line.take (j + 1)) ++ prodW p ts (line.drop (j + 1))).foldl addW (W, []) := by
          unfold levelW prodW
          rw [← List.flatten_append, ← List.map_append, List.take_append_drop]
        have hpre : ∀ q ∈ prodW p ts (line.take j), Tab p n q.1 := prod_tab _ fun w hw => hline w (List.mem_of_mem_take hw)
        rw [e2] at e3 ⊢
        have lenE : ((prodW p ts (line.take j) ++ extW p ts h).foldl addW (W, [])).1.length ≤ 200 := by
          have := foldW_pre (prodW p ts (line.take j) ++ extW p ts h) (prodW p ts (line.drop (j + 1))) (W, [])
          rw [← e3] at this
          omega
        generalize prodW p ts (line.take j) = pre at hpre lenE
        refine Ss.consP (fun ρ => ρ = [some (.sh (.wit H0 p)), some (.sh (dTs ts)), some (.sh (.lst (line.map (dwF H0)))), some (.dic (metW H0 ((pre ++ extW p ts h).foldl addW (W, [])).1)), some (.lst (((pre ++ extW p ts h).foldl addW (W, [])).2.map fun w => T.sh (dwF H0 w))), some (.sh (.frT H0 h.1)), some (.sh (dR h.2)), none, none, none])
          (Sm.forZ (xs := List.range ts.length) (en := fun (i : Nat) => D.int i) (en' := fun (i : Nat) => dT (ts.getD i [])) (fun l ρ => ρ = [some (.sh (.wit H0 p)), some (.sh (dTs ts)), some (.sh (.lst (line.map (dwF H0)))), some (.dic (metW H0 ((pre ++ (extW p ts h).take l).foldl addW (W, [])).1)), some (.lst (((pre ++ (extW p ts h).take l).foldl addW (W, [])).2.map fun w => T.sh (dwF H0 w))), some (.sh (.frT H0 h.1)), some (.sh (dR h.2)), none, none, none]) hX 7 8
            (itEnum (f := dT) [] hX hen (nm hX 1)) (by rw [List.take_zero, List.append_nil]; rfl) (fun j ρ h => by rw [h]; exact ⟨rfl, rfl⟩) (fun l i ρ hl2 hI => ?_) fun ρ hh => ?_) fun ρ hρ => ?_
        · subst hI
          obtain ⟨hlt, rfl⟩ := rng_at hl2
          have hti := G.tab _ (getD_mem [] hlt)
          have el : (extW p ts h)[i]? = some (behindL p h.1 (ts.getD i []), h.2 ++ [(i : Int)]) := by
            unfold extW
            rw [List.getElem?_map, List.getElem?_range hlt]
            rfl
          have e4 : pre ++ (extW p ts h).take (i + 1) = (pre ++ (extW p ts h).take i) ++ [(behindL p h.1 (ts.getD i []), h.2 ++ [(i : Int)])] := by
            rw [List.take_add_one, el, List.append_assoc]
            rfl
          have hth := behindL_ok (p := p) hp0 hh.len hti.len
          have hq : ∀ q ∈ pre ++ (extW p ts h).take i, Tab p n q.1 := fun q hq => (List.mem_append.mp hq).elim (hpre q) fun z => ext_tab h hh q (List.mem_of_mem_take z)
          have ft := fold_tab _ hq
          have lenI : ((pre ++ (extW p ts h).take i).foldl addW (W, [])).1.length ≤ 200 := by
            have := foldW_pre (pre ++ (extW p ts h).take i) ((extW p ts h).drop i) (W, [])
            rw [List.append_assoc, List.take_append_drop] at this
            omega
          have len2 := (foldW_len (pre ++ (extW p ts h).take i) (W, [])).2
          have h2len : h.2.length ≤ 1000 := by
            have hw := (wi.lword h (List.mem_of_getElem? hj)).2
            have := hlw hl
            have := (foldW_len (pre ++ (extW p ts h).take i) (W, [])).1
            simp only at this
            omega
          have e5 : (pre ++ (extW p ts h).take (i + 1)).foldl addW (W, []) = addW ((pre ++ (extW p ts h).take i).foldl addW (W, [])) (behindL p h.1 (ts.getD i []), h.2 ++ [(i : Int)]) := by
            rw [e4, List.foldl_append]
            rfl
          rw [e5]
          generalize (pre ++ (extW p ts h).take i).foldl addW (W, []) = s at ft lenI len2
          refine Ss.cons (Sm.set hX 9 (Ev.fzF (H0 := H0) (n := p) 0 (Ev.call hX H2 (.cons (Ev.unw (nm hX 0)) (.cons (Ev.unf (nm hX 5)) (.cons (nm hX 8) .nil))) ⟨p, h.1, ts.getD i [], rfl, Tab.bh hp n3 hh hti, rfl⟩)) ?_)
          have hv := metW_val hp (H0 := H0) hth ft.1
          refine Ss.cons (Sm.ife (q := (valD (metW H0 s.1) (keyT (behindL p h.1 (ts.getD i [])))).isNone) (Te.dnin hX 3 (e_strT hX hstr n3 hth.len (hth.rw7 hp) (Rd.unf (nmS hX 9))).rd) (fun hc => ?_) fun hc => Ss.nil (Ss.drop 7 (Ss.drop 8 (Ss.drop 9 (Ss.nil ?_)))))
          · rw [Option.isNone_iff_eq_none] at hc
            rw [hc] at hv
            have hf : (s.1.find? fun w => decide (w.1 = behindL p h.1 (ts.getD i []))) = none := by
              cases z : s.1.find? fun w => decide (w.1 = behindL p h.1 (ts.getD i [])) with
              | none => rfl
              | some w => rw [z] at hv; cases hv
            have no := find_none.mp hf
            have ea : addW s (behindL p h.1 (ts.getD i []), h.2 ++ [(i : Int)]) = (s.1 ++ [(behindL p h.1 (ts.getD i []), h.2 ++ [(i : Int)])], s.2 ++ [(behindL p h.1 (ts.getD i []), h.2 ++ [(i : Int)])]) := by
              unfold addW
              rw [if_neg (by rw [no]; exact Bool.false_ne_true)]
            rw [ea]
            generalize hb : behindL p h.1 (ts.getD i []) = bb at hc hth
            refine Ss.cons (Sm.dput hX 3 (d := dwF H0 (bb, h.2 ++ [(i : Int)])) (castE (Ev.tup (.cons (nm hX 9) (.cons (e_cat (f := D.int) (xs := h.2) (ys := [(i : Int)]) (Ev.lsS (nm hX 6)) (Ev.ls (Ev.list (.cons (nm hX 7) .nil))) (by show _ + 1 ≤ 10000; omega)) .nil))) rfl) (e_strT hX hstr n3 hth.len (hth.rw7 hp) (Rd.unf (nmS hX 9))).rd hc (by unfold metW; rw [List.length_map]; omega) ?_)
            have hg : valD (metW H0 s.1 ++ [(keyT bb, dwF H0 (bb, h.2 ++ [(i : Int)]))]) (keyT bb) = some (dwF H0 (bb, h.2 ++ [(i : Int)])) := by
              rw [valD_snoc _ _ _ _ hc, if_pos rfl]
            refine Ss.cons (Sm.app (ts := s.2.map fun w => T.sh (dwF H0 w)) (nmN hX 4) (Ev.dget hX 3 (e_strT hX hstr n3 hth.len (hth.rw7 hp) (Rd.unf (nmS hX 9))).rd hg) (Ss.nil (Ss.drop 7 (Ss.drop 8 (Ss.drop 9 (Ss.nil ?_))))) (by rw [List.length_map]; simp only [List.length_nil] at len2; exact small1000 (by omega)))
            unfold metW
            rw [List.map_append, List.map_append]
            rfl
          · have hf : (s.1.find? fun w => decide (w.1 = behindL p h.1 (ts.getD i []))) ≠ none := fun z => by
              rw [z] at hv
              rw [hv] at hc
              cases hc
            have yes : inB (behindL p h.1 (ts.getD i [])) (tbs s.1) = true := by
              cases z : inB (behindL p h.1 (ts.getD i [])) (tbs s.1) with
              | true => rfl
              | false => exact absurd (find_none.mpr z) hf
            have ea : addW s (behindL p h.1 (ts.getD i []), h.2 ++ [(i : Int)]) = s := by
              unfold addW
              rw [if_pos yes]
            rw [ea]
            rfl
        · rw [hh, List.length_range, List.take_of_length_le (by unfold extW; rw [List.length_map, List.length_range]; exact Nat.le_refl _)]
        · subst hρ
          exact Ss.drop 5 (Ss.drop 6 (Ss.nil rfl))
      · subst hρ
        refine Ss.cons (Sm.ife (q := false) (Te.of (Te.cmp CmpD.gt (e_lenD hX B.len 3).rd (e_mostM hX C).rd) ?_) (fun h => nomatch h) fun _ => Ss.nil ?_)
        · unfold metW
          rw [List.length_map]
          exact decide_eq_false (by omega)
        · have wl : (levelW p ts W line).2.map (fun w => T.sh (dwF H0 w)) = ((levelW p ts W line).2.map (dwF H0)).map T.sh := by
            rw [List.map_map]
            rfl
          refine Ss.frz 4 (d := .lst ((levelW p ts W line).2.map (dwF H0))) ?_ rfl (by
            rw [wl]
            exact er_shs _)
          refine Ss.cons (Sm.set hX 2 (nm hX 4) (Ss.nil ⟨_, ?_, levels ++ [tbs (levelW p ts W line).2], (levelW p ts W line).1, (levelW p ts W line).2, g', _, rfl, ?_, ws, ?_, fun z => ?_, hv', rfl⟩))
          · rw [hm, e1.1, e1.2]
            exact hstep.2
          · rw [e1.1, e1.2]
            exact hstep.1
          · rw [e1.1, e1.2]
            have := hstep.2
            omega
          · have := hlw hl
            have e5 := (foldW_len (prodW p ts line) (W, [])).2
            have : 0 < (levelW p ts W line).2.length := List.length_pos_iff.mpr z
            rw [List.length_append]
            show levels.length + 1 ≤ ((prodW p ts line).foldl addW (W, [])).1.length
            have e6 : (levelW p ts W line).2.length = ((prodW p ts line).foldl addW (W, [])).2.length := rfl
            simp only [List.length_nil] at e5
            omega
    · have hl : line = [] := by
        rw [Bool.not_eq_false', decide_eq_true_eq] at hc
        exact List.map_eq_nil_iff.mp hc
      have : W = wordsL p n ts := by
        rw [← hv]
        cases g with
        | zero => rfl
        | succ g =>
          show _ = if line = [] then W else _
          rw [if_pos hl]
      rw [← this]
      exact ⟨_, _, rfl⟩
  · subst hρ
    refine Ss.cons (Sm.ret (e_vals (es := []) hX B.list 3) ?_)
    show T.lst _ = T.lst _
    unfold metW
    rw [List.map_map, List.map_map]
    rfl
end
/-! ### groups.py: made, word -/
section
variable {M : Md} {CW CN : Addr}
end
/-! ### what is refused: restturns/tables.py -/
noncomputable def wholeD : D → Option Bool
  | .int _ => some true
  | .non => some false
  | .bl _ => some false
  | .str _ => some false
  | .lst _ => some false
  | .tup _ => some false
  | .dic _ => some false
  | _ => none
noncomputable def okE (d : D) : Bool := (wholeD d).isSome
noncomputable def elemB (p : Int) : D → Bool
  | .int i => decide (0 ≤ i) && decide (i < p)
  | _ => false
noncomputable def rowK : D → Bool
  | .lst xs => xs.all okE && decide (xs.length ≤ 1000)
  | d => okE d
noncomputable def rowB (p n : Int) : D → Bool
  | .lst xs => decide ((xs.length : Int) = n) && xs.all (elemB p)
  | _ => false
noncomputable def tabK : D → Bool
  | .lst xs => xs.all rowK && decide (xs.length ≤ 1000)
  | d => okE d
noncomputable def tabB' (p : Int) : D → Bool
  | .lst xs => (decide (1 ≤ (xs.length : Int)) && decide ((xs.length : Int) ≤ 3)) && xs.all (rowB p xs.length)
  | _ => false
noncomputable def tsK : D → Bool
  | .lst xs => xs.all tabK && decide (xs.length ≤ 1000)
  | d => okE d
noncomputable def tsB (p : Int) : D → Bool
  | .lst xs => (decide (1 ≤ (xs.length : Int)) && decide ((xs.length : Int) ≤ 3)) && xs.all (tabB' p)
  | _ => false
noncomputable def badR (d : D) : Prop := wholeD d = some false ∨ ∃ p, d = .int p ∧ ¬ Round p
noncomputable def badT (p : Int) (d : D) : Prop := tabK d = true ∧ tabB' p d = false
noncomputable def badTs (p : Int) (d : D) : Prop := tsK d = true ∧ tsB p d = false
/-- no list -/
noncomputable def nl (d : D) : Prop := okE d = true ∧ ∀ xs, d ≠ .lst xs
theorem nl.kind {d : D} (h : nl d) : ∃ n, tyD d = some n ∧ kitB n "list" = some false := by
  obtain ⟨h, k⟩ := h
  cases d with
  | lst xs => exact absurd rfl (k xs)
  | non => exact ⟨_, rfl, by decide +kernel⟩
  | bl _ => exact ⟨_, rfl, by decide +kernel⟩
  | int _ => exact ⟨_, rfl, by decide +kernel⟩
  | str _ => exact ⟨_, rfl, by decide +kernel⟩
  | tup _ => exact ⟨_, rfl, by decide +kernel⟩
  | dic _ => exact ⟨_, rfl, by decide +kernel⟩
  | ty _ => cases h
  | «at» _ => cases h
  | obj _ _ => cases h
  | wit _ _ => cases h
  | frT _ _ => cases h
  | dicL _ => cases h
theorem lst_or {d : D} (h : okE d = true) : (∃ xs, d = .lst xs) ∨ nl d := by
  cases d with
  | lst xs => exact .inl ⟨xs, rfl⟩
  | non => exact .inr ⟨h, fun _ z => nomatch z⟩
  | bl _ => exact .inr ⟨h, fun _ z => nomatch z⟩
  | int _ => exact .inr ⟨h, fun _ z => nomatch z⟩
  | str _ => exact .inr ⟨h, fun _ z => nomatch z⟩
  | tup _ => exact .inr ⟨h, fun _ z => nomatch z⟩
  | dic _ => exact .inr ⟨h, fun _ z => nomatch z⟩
  | ty _ => cases h
  | «at» _ => cases h
  | obj _ _ => cases h
  | wit _ _ => cases h
  | frT _ _ => cases h
  | dicL _ => cases h
theorem elem_or {d : D} (h : okE d = true) : (∃ i, d = .int i) ∨ (wholeD d = some false ∧ ∀ p, elemB p d = false) := by
  cases d with
  | int i => exact .inl ⟨i, rfl⟩
  | lst xs => exact .inr ⟨rfl, fun _ => rfl⟩
  | non => exact .inr ⟨rfl, fun _ => rfl⟩
  | bl _ => exact .inr ⟨rfl, fun _ => rfl⟩
  | str _ => exact .inr ⟨rfl, fun _ => rfl⟩
  | tup _ => exact .inr ⟨rfl, fun _ => rfl⟩
  | dic _ => exact .inr ⟨rfl, fun _ => rfl⟩
  | ty _ => cases h
  | «at» _ => cases h
  | obj _ _ => cases h
  | wit _ _ => cases h
  | frT _ _ => cases h
  | dicL _ => cases h
theorem rowK_ok {d : D} (h : rowK d = true) : okE d = true := by cases d <;> first | rfl | exact h
theorem tabK_ok {d : D} (h : tabK d = true) : okE d = true := by cases d <;> first | rfl | exact h
theorem tsK_ok {d : D} (h : tsK d = true) : okE d = true := by cases d <;> first | rfl | exact h
theorem rowB_nl {p n : Int} {d : D} (h : nl d) : rowB p n d = false := by
  cases d with
  | lst xs => exact absurd rfl (h.2 xs)
  | _ => rfl
theorem tabB_nl {p : Int} {d : D} (h : nl d) : tabB' p d = false := by
  cases d with
  | lst xs => exact absurd rfl (h.2 xs)
  | _ => rfl
section
variable {M : Md} {C0 C1 C6 C7 : Addr}
noncomputable def gWholeD (ds : List D) (t : T) : Prop := ∃ d b, ds = [d] ∧ wholeD d = some b ∧ t = .sh (.bl b)
theorem ok_is_wholeD (B : BI M.mg) (F : FnE M "is_whole" s_is_whole ["thing"]) : DefOk M 1 "is_whole" gWholeD := by
  refine def_okE F c_is_whole (fun ds t ⟨d, b, h, _⟩ => by rw [h]; rfl) fun X ds t hX ⟨d, b, h, hw, ht⟩ => ?_
  subst h ht
  have no : ∀ {n : String} {d : D}, tyD d = some n → kitB n "int" = some false → b = false → Ss X (rho0 N_is_whole [d]) (defBody s_is_whole) { nx := fun _ => T.sh (.bl b) = .sh .non, rt := fun t' => t' = T.sh (.bl b) } := fun h1 h2 e => by
    subst e
    exact Ss.cons (Sm.ret (t := .sh (.bl false)) (Ev.and (p := false) (q := false) (e_isi hX B.isinstance B.int PyProof.Rows.boot_int (nmS hX 0) h1 h2) fun h => nomatch h) rfl)
  cases d with
  | int i =>
    cases hw
    exact Ss.cons (Sm.ret (t := .sh (.bl true)) (Ev.and (p := true) (q := true) (e_isi hX B.isinstance B.int PyProof.Rows.boot_int (nmS hX 0) rfl (by decide +kernel)) fun _ => Ev.and1 (Ev.not (p := false) (e_isi hX B.isinstance B.bool PyProof.Rows.boot_bool (nmS hX 0) rfl (by decide +kernel)))) rfl)
  | bl i =>
    cases hw
    exact Ss.cons (Sm.ret (t := .sh (.bl false)) (Ev.and (p := true) (q := false) (e_isi hX B.isinstance B.int PyProof.Rows.boot_int (nmS hX 0) rfl (by decide +kernel)) fun _ => Ev.and1 (Ev.not (p := true) (e_isi hX B.isinstance B.bool PyProof.Rows.boot_bool (nmS hX 0) rfl (by decide +kernel)))) rfl)
  | non => exact no rfl (by decide +kernel) (by cases hw; rfl)
  | str _ => exact no rfl (by decide +kernel) (by cases hw; rfl)
  | lst _ => exact no rfl (by decide +kernel) (by cases hw; rfl)
  | tup _ => exact no rfl (by decide +kernel) (by cases hw; rfl)
  | dic _ => exact no rfl (by decide +kernel) (by cases hw; rfl)
  | ty _ => cases hw
  | «at» _ => cases hw
  | obj _ _ => cases hw
  | wit _ _ => cases hw
  | frT _ _ => cases hw
  | dicL _ => cases hw
noncomputable def gIsRowD (ds : List D) (t : T) : Prop := ∃ p d n, ds = [.int p, d, .int n] ∧ rowK d = true ∧ t = .sh (.bl (rowB p n d))
theorem ok_is_rowD (B : BI M.mg) (F : FnE M "is_row" s_is_row ["prime", "thing", "many"]) (H1 : DefOk M 1 "is_whole" gWholeD) : DefOk M 2 "is_row" gIsRowD := by
  refine def_okE F c_is_row (fun ds t ⟨p, d, n, h, _⟩ => by rw [h]; rfl) fun X ds t hX ⟨p, d, n, h, hk, ht⟩ => ?_
  subst h ht
  rcases lst_or (rowK_ok hk) with ⟨xs, rfl⟩ | hn
  · obtain ⟨k1, k2⟩ := and2 hk
    refine Ss.cons (Sm.ret (Ev.and (p := true) (e_isi hX B.isinstance B.list PyProof.Rows.boot_list (nmS hX 1) rfl (by decide +kernel)) fun _ => Ev.and (Ev.cmp CmpD.eqI (e_len hX B.len (nmS hX 1)).rd (nmS hX 2)) fun _ => Ev.and1
      (e_allC (xs := xs) (f := elemB p) hX B.all (lcN (xs := xs) (en := fun d => d) hX 3 (ItC.list (by rw [List.map_id']; exact Ev.lsS (nm hX 1))) (fun X' b hX' a ha => ?_) (sz (of_decide_eq_true k2))))) ?_)
    · rcases elem_or (List.all_eq_true.mp k1 a ha) with ⟨i, rfl⟩ | ⟨h, e⟩
      · exact Ev.and (p := true) (Ev.call hX' H1 (.cons (nm hX' 3) .nil) ⟨_, _, rfl, rfl, rfl⟩) fun _ => Ev.and1 (Ev.chain CmpD.le CmpD.lt Ev.int.rd (nmS hX' 3) (nmS hX' 0))
      · rw [e]
        exact Ev.and (p := false) (q := false) (Ev.call hX' H1 (.cons (nm hX' 3) .nil) ⟨_, _, rfl, h, rfl⟩) fun h => nomatch h
    · rfl
  · obtain ⟨m, h1, h2⟩ := hn.kind
    rw [rowB_nl hn]
    exact Ss.cons (Sm.ret (t := .sh (.bl false)) (Ev.and (p := false) (q := false) (e_isi hX B.isinstance B.list PyProof.Rows.boot_list (nmS hX 1) h1 h2) fun h => nomatch h) rfl)
noncomputable def gIsTableD (ds : List D) (t : T) : Prop := ∃ p d, ds = [.int p, d] ∧ tabK d = true ∧ t = .sh (.bl (tabB' p d))
theorem ok_is_tableD (B : BI M.mg) (C : CM M) (F : FnE M "is_table" s_is_table ["prime", "thing"]) (H1 : DefOk M 2 "is_row" gIsRowD) : DefOk M 3 "is_table" gIsTableD := by
  refine def_okE F c_is_table (fun ds t ⟨p, d, h, _⟩ => by rw [h]; rfl) fun X ds t hX ⟨p, d, h, hk, ht⟩ => ?_
  subst h ht
  rcases lst_or (tabK_ok hk) with ⟨xs, rfl⟩ | hn
  · obtain ⟨k1, k2⟩ := and2 hk
    refine Ss.cons (Sm.ife (q := !(decide (1 ≤ (xs.length : Int)) && decide ((xs.length : Int) ≤ 3))) (Tw.te (Tw.or (p := false) (Te.not (p := true) (Te.val (e_isi (q := true) hX B.isinstance B.list PyProof.Rows.boot_list (nmS hX 1) rfl (by decide +kernel)))) fun _ => Tw.or1 (Te.not (Te.chain CmpD.le CmpD.le Ev.int.rd (e_len hX B.len (nmS hX 1)).rd (e_most hX C).rd)))) (fun h => ?_) fun h => ?_)
    · refine Ss.cons (Sm.ret (Ev.bl) ?_)
      show T.sh _ = T.sh (.bl ((decide _ && decide _) && _))
      rw [Bool.not_eq_true'] at h
      rw [h]
      rfl
    · refine Ss.nil (Ss.cons (Sm.ret (e_allC (xs := xs) (f := rowB p xs.length) hX B.all (lcN (xs := xs) (en := fun d => d) hX 2 (ItC.list (by rw [List.map_id']; exact Ev.lsS (nm hX 1))) (fun X' b hX' a ha => Ev.call hX' H1 (.cons (nm hX' 0) (.cons (nm hX' 2) (.cons (e_len hX' B.len (nmS hX' 1)) .nil))) ⟨p, a, _, rfl, List.all_eq_true.mp k1 a ha, rfl⟩) (sz (of_decide_eq_true k2)))) ?_))
      show T.sh _ = T.sh (.bl ((decide _ && decide _) && _))
      rw [Bool.not_eq_false'] at h
      rw [h]
      rfl
  · obtain ⟨m, h1, h2⟩ := hn.kind
    rw [tabB_nl hn]
    exact Ss.cons (Sm.ife (q := true) (Tw.te (Tw.or (p := true) (q := false) (Te.not (p := false) (Te.val (e_isi hX B.isinstance B.list PyProof.Rows.boot_list (nmS hX 1) h1 h2))) fun h => nomatch h)) (fun _ => Ss.cons (Sm.ret Ev.bl rfl)) fun h => nomatch h)
noncomputable def gRoundX (C0 : Addr) (ds : List D) (C : Addr) : Prop := ∃ d, ds = [d] ∧ badR d ∧ C = C0
theorem bad_round (er : ErrC M C0) (hm : M.mg "BadRound" = some (.ref C0)) (CR' : CR M) (F : FnE M "check_round" s_check_round ["prime"]) (H1 : DefOk M 1 "is_whole" gWholeD) : DefX M 2 "check_round" (gRoundX C0) := by
  refine defXE F c_check_round (fun ds C ⟨d, h, _⟩ => by rw [h]; rfl) fun X E ds C hX ⟨d, h, hb, hC⟩ => ?_
  subst h hC
  have x := hX.x
  rcases hb with hb | ⟨p, rfl, hb⟩
  · exact Sxs.here (Sx.ifr (Tw.te (Tw.or (p := true) (q := true) (Te.not (p := false) (Te.val (Ev.call x H1 (.cons (nm x 0) .nil) ⟨d, _, rfl, hb, rfl⟩))) fun h => nomatch h)) (Sxs.here (Sx.raise hX er hm)))
  · refine Sxs.here (Sx.ifr (Te.of (Tw.te (Tw.or (p := false) (Te.not (p := true) (Te.val (Ev.call x H1 (.cons (nm x 0) .nil) ⟨_, _, rfl, rfl, rfl⟩))) fun _ => Tw.or1 (Te.cmp CmpD.notInTI (nmS x 0) (e_rounds x CR').rd))) ?_) (Sxs.here (Sx.raise hX er hm)))
    have : decide (p ∈ [(2 : Int), 3, 5, 7]) = false := decide_eq_false fun z => hb (by simpa [Round] using z)
    rw [this]
    rfl
noncomputable def gTableX (C1 : Addr) (ds : List D) (C : Addr) : Prop := ∃ p d, ds = [.int p, d] ∧ badT p d ∧ C = C1
theorem bad_table (er : ErrC M C1) (hm : M.mg "BadTable" = some (.ref C1)) (F : FnE M "check_table" s_check_table ["prime", "table"]) (H1 : DefOk M 3 "is_table" gIsTableD) : DefX M 4 "check_table" (gTableX C1) := by
  refine defXE F c_check_table (fun ds C ⟨p, d, h, _⟩ => by rw [h]; rfl) fun X E ds C hX ⟨p, d, h, hb, hC⟩ => ?_
  subst h hC
  have x := hX.x
  exact Sxs.here (Sx.ifr (Te.of (Te.not (Te.val (Ev.call x H1 (.cons (nm x 0) (.cons (nm x 1) .nil)) ⟨p, d, rfl, hb.1, rfl⟩))) (by rw [hb.2]; rfl)) (Sxs.here (Sx.raise hX er hm)))
noncomputable def gOneX (C0 C1 : Addr) (ds : List D) (C : Addr) : Prop := ∃ dp d, ds = [dp, d] ∧ ((badR dp ∧ C = C0) ∨ ∃ p, dp = .int p ∧ Round p ∧ badT p d ∧ C = C1)
theorem bad_one (F : FnE M "check_one" s_check_one ["prime", "table"]) (H1 : DefOk M 2 "check_round" gRound) (X1 : DefX M 2 "check_round" (gRoundX C0)) (X2 : DefX M 4 "check_table" (gTableX C1)) : DefX M 5 "check_one" (gOneX C0 C1) := by
  refine defXE F c_check_one (fun ds C ⟨dp, d, h, _⟩ => by rw [h]; rfl) fun X E ds C hX ⟨dp, d, h, hb⟩ => ?_
  subst h
  have x := hX.x
  rcases hb with ⟨hb, rfl⟩ | ⟨p, rfl, hr, hb, rfl⟩
  · exact Sxs.here (Sx.expr (Ex.call hX X1 (.cons (nmS x 0) .nil) ⟨dp, rfl, hb, rfl⟩))
  · refine Sxs.skip (P := fun r => r = rho0 N_check_one [.int p, d]) (Sm.expr (Ev.call x H1 (.cons (nm x 0) .nil) ⟨p, rfl, hr, rfl⟩) rfl) fun r h => ?_
    subst h
    exact Sxs.here (Sx.expr (Ex.call hX X2 (.cons (nmS x 0) (.cons (nmS x 1) .nil)) ⟨p, d, rfl, hb, rfl⟩))
noncomputable def gTwoX (C0 C1 C6 : Addr) (ds : List D) (C : Addr) : Prop := ∃ dp d1 d2, ds = [dp, d1, d2] ∧ (gOneX C0 C1 [dp, d1] C ∨ ∃ p s, dp = .int p ∧ d1 = dT s ∧ Round p ∧ isTable p s = true ∧ ((badT p d2 ∧ C = C1) ∨ ∃ tb, d2 = dT tb ∧ isTable p tb = true ∧ s.length ≠ tb.length ∧ C = C6))
theorem bad_two (B : BI M.mg) (er : ErrC M C6) (hm : M.mg "Unlike" = some (.ref C6)) (F : FnE M "check_two" s_check_two ["prime", "one", "other"]) (H1 : DefOk M 5 "check_one" gCheckOne) (H2 : DefOk M 4 "check_table" gCheckTable) (X1 : DefX M 5 "check_one" (gOneX C0 C1)) (X2 : DefX M 4 "check_table" (gTableX C1)) : DefX M 6 "check_two" (gTwoX C0 C1 C6) := by
  refine defXE F c_check_two (fun ds C ⟨dp, d1, d2, h, _⟩ => by rw [h]; rfl) fun X E ds C hX ⟨dp, d1, d2, h, hb⟩ => ?_
  subst h
  have x := hX.x
  rcases hb with hb | ⟨p, s, rfl, rfl, hr, hs, hb⟩
  · exact Sxs.here (Sx.expr (Ex.call hX X1 (.cons (nmS x 0) (.cons (nmS x 1) .nil)) hb))
  · refine Sxs.skip (P := fun r => r = rho0 N_check_two [.int p, dT s, d2]) (Sm.expr (Ev.call x H1 (.cons (nm x 0) (.cons (nm x 1) .nil)) ⟨p, s, rfl, hr, hs, rfl⟩) rfl) fun r h => ?_
    subst h
    rcases hb with ⟨hb, rfl⟩ | ⟨tb, rfl, ht, hn, rfl⟩
    · exact Sxs.here (Sx.expr (Ex.call hX X2 (.cons (nmS x 0) (.cons (nmS x 2) .nil)) ⟨p, d2, rfl, hb, rfl⟩))
    · refine Sxs.skip (P := fun r => r = rho0 N_check_two [.int p, dT s, dT tb]) (Sm.expr (Ev.call x H2 (.cons (nm x 0) (.cons (nm x 2) .nil)) ⟨p, tb, rfl, ht, rfl⟩) rfl) fun r h => ?_
      subst h
      refine Sxs.here (Sx.ifr (Te.of (Te.cmp CmpD.neI (e_len x B.len (nmS x 1)).rd (e_len x B.len (nmS x 2)).rd) ?_) (Sxs.here (Sx.raise hX er hm)))
      rw [List.length_map, List.length_map, decide_eq_false (by omega)]
      rfl
/-! doors -/
noncomputable def gOne3 (C0 C1 : Addr) (ds : List D) (C : Addr) : Prop := ∃ dp d e, ds = [dp, d, e] ∧ gOneX C0 C1 [dp, d] C
noncomputable def gOneM (C0 C1 : Addr) (ds : List D) (C : Addr) : Prop := ∃ dp d e, ds = [dp, e, d] ∧ gOneX C0 C1 [dp, d] C
noncomputable def gRound2 (C0 : Addr) (ds : List D) (C : Addr) : Prop := ∃ dp e, ds = [dp, e] ∧ badR dp ∧ C = C0
noncomputable def gRound3 (C0 : Addr) (ds : List D) (C : Addr) : Prop := ∃ dp e e2, ds = [dp, e, e2] ∧ badR dp ∧ C = C0
noncomputable def gRound4 (C0 : Addr) (ds : List D) (C : Addr) : Prop := ∃ dp e e2 e3, ds = [dp, e, e2, e3] ∧ badR dp ∧ C = C0
theorem len2 {C0 C1 C : Addr} {ds : List D} (h : gOneX C0 C1 ds C) : ds.length = 2 := by
  obtain ⟨_, _, h, _⟩ := h
  rw [h]
  rfl
theorem bad_moved (F : FnE M "moved" s_moved P_moved) (X1 : DefX M 5 "check_one" (gOneX C0 C1)) : DefX M 6 "moved" (gOneM C0 C1) :=
  defXE F c_moved (fun ds C ⟨_, _, _, h, _⟩ => by rw [h]; rfl) fun X E ds C hX ⟨dp, d, e, h, hb⟩ => by
    subst h
    exact Sxs.here (Sx.expr (Ex.call hX X1 (.cons (nmS hX.x 0) (.cons (nmS hX.x 2) .nil)) hb))
theorem bad_behind (F : FnE M "behind" s_behind P_behind) (X1 : DefX M 6 "check_two" (gTwoX C0 C1 C6)) : DefX M 7 "behind" (gTwoX C0 C1 C6) :=
  defXE F c_behind (fun ds C ⟨_, _, _, h, _⟩ => by rw [h]; rfl) fun X E ds C hX hb => by
    obtain ⟨dp, d1, d2, rfl, _⟩ := id hb
    exact Sxs.here (Sx.expr (Ex.call hX X1 (.cons (nmS hX.x 0) (.cons (nmS hX.x 1) (.cons (nmS hX.x 2) .nil))) hb))
theorem bad_together (F : FnE M "together" s_together P_together) (X1 : DefX M 6 "check_two" (gTwoX C0 C1 C6)) : DefX M 7 "together" (gTwoX C0 C1 C6) :=
  defXE F c_together (fun ds C ⟨_, _, _, h, _⟩ => by rw [h]; rfl) fun X E ds C hX hb => by
    obtain ⟨dp, d1, d2, rfl, _⟩ := id hb
    exact Sxs.here (Sx.expr (Ex.call hX X1 (.cons (nmS hX.x 0) (.cons (nmS hX.x 1) (.cons (nmS hX.x 2) .nil))) hb))
theorem bad_turned (F : FnE M "turned" s_turned P_turned) (X1 : DefX M 5 "check_one" (gOneX C0 C1)) : DefX M 6 "turned" (gOne3 C0 C1) :=
  defXE F c_turned (fun ds C ⟨_, _, _, h, _⟩ => by rw [h]; rfl) fun X E ds C hX ⟨dp, d, e, h, hb⟩ => by
    subst h
    exact Sxs.here (Sx.expr (Ex.call hX X1 (.cons (nmS hX.x 0) (.cons (nmS hX.x 1) .nil)) hb))
end
/-! ### what is refused: the other doors -/
section
variable {M : Md} {C0 C1 C6 C7 : Addr}
theorem bad_undone (F : FnE M "undone" s_undone P_undone) (X1 : DefX M 5 "check_one" (gOneX C0 C1)) : DefX M 6 "undone" (gOneX C0 C1) :=
  defXE F c_undone (fun ds C h => len2 h) fun X E ds C hX hb => by
    obtain ⟨dp, d, rfl, _⟩ := id hb
    exact Sxs.here (Sx.expr (Ex.call hX X1 (.cons (nmS hX.x 0) (.cons (nmS hX.x 1) .nil)) hb))
theorem bad_rank (F : FnE M "rank" s_rank P_rank) (X1 : DefX M 5 "check_one" (gOneX C0 C1)) : DefX M 6 "rank" (gOneX C0 C1) :=
  defXE F c_rank (fun ds C h => len2 h) fun X E ds C hX hb => by
    obtain ⟨dp, d, rfl, _⟩ := id hb
    exact Sxs.here (Sx.expr (Ex.call hX X1 (.cons (nmS hX.x 0) (.cons (nmS hX.x 1) .nil)) hb))
theorem bad_worth (F : FnE M "worth" s_worth P_worth) (X1 : DefX M 5 "check_one" (gOneX C0 C1)) : DefX M 6 "worth" (gOneX C0 C1) :=
  defXE F c_worth (fun ds C h => len2 h) fun X E ds C hX hb => by
    obtain ⟨dp, d, rfl, _⟩ := id hb
    exact Sxs.here (Sx.expr (Ex.call hX X1 (.cons (nmS hX.x 0) (.cons (nmS hX.x 1) .nil)) hb))
theorem bad_least_rule (F : FnE M "least_rule" s_least_rule P_least_rule) (X1 : DefX M 5 "check_one" (gOneX C0 C1)) : DefX M 6 "least_rule" (gOneX C0 C1) :=
  defXE F c_least_rule (fun ds C h => len2 h) fun X E ds C hX hb => by
    obtain ⟨dp, d, rfl, _⟩ := id hb
    exact Sxs.here (Sx.expr (Ex.call hX X1 (.cons (nmS hX.x 0) (.cons (nmS hX.x 1) .nil)) hb))
theorem bad_own_rule (F : FnE M "own_rule" s_own_rule P_own_rule) (X1 : DefX M 5 "check_one" (gOneX C0 C1)) : DefX M 6 "own_rule" (gOneX C0 C1) :=
  defXE F c_own_rule (fun ds C h => len2 h) fun X E ds C hX hb => by
    obtain ⟨dp, d, rfl, _⟩ := id hb
    exact Sxs.here (Sx.expr (Ex.call hX X1 (.cons (nmS hX.x 0) (.cons (nmS hX.x 1) .nil)) hb))
theorem bad_spanning (F : FnE M "spanning" s_spanning P_spanning) (X1 : DefX M 5 "check_one" (gOneX C0 C1)) : DefX M 6 "spanning" (gOneX C0 C1) :=
  defXE F c_spanning (fun ds C h => len2 h) fun X E ds C hX hb => by
    obtain ⟨dp, d, rfl, _⟩ := id hb
    exact Sxs.here (Sx.expr (Ex.call hX X1 (.cons (nmS hX.x 0) (.cons (nmS hX.x 1) .nil)) hb))
theorem bad_comes_round (F : FnE M "comes_round" s_comes_round P_comes_round) (X1 : DefX M 5 "check_one" (gOneX C0 C1)) : DefX M 6 "comes_round" (gOneX C0 C1) :=
  defXE F c_comes_round (fun ds C h => len2 h) fun X E ds C hX hb => by
    obtain ⟨dp, d, rfl, _⟩ := id hb
    exact Sxs.here (Sx.expr (Ex.call hX X1 (.cons (nmS hX.x 0) (.cons (nmS hX.x 1) .nil)) hb))
theorem bad_back (F : FnE M "back" s_back P_back) (X1 : DefX M 5 "check_one" (gOneX C0 C1)) : DefX M 6 "back" (gOneX C0 C1) :=
  defXE F c_back (fun ds C h => len2 h) fun X E ds C hX hb => by
    obtain ⟨dp, d, rfl, _⟩ := id hb
    exact Sxs.here (Sx.expr (Ex.call hX X1 (.cons (nmS hX.x 0) (.cons (nmS hX.x 1) .nil)) hb))
theorem bad_number_of (F : FnE M "number_of" s_number_of P_number_of) (X1 : DefX M 5 "check_one" (gOneX C0 C1)) : DefX M 6 "number_of" (gOneX C0 C1) :=
  defXE F c_number_of (fun ds C h => len2 h) fun X E ds C hX hb => by
    obtain ⟨dp, d, rfl, _⟩ := id hb
    exact Sxs.here (Sx.expr (Ex.call hX X1 (.cons (nmS hX.x 0) (.cons (nmS hX.x 1) .nil)) hb))
theorem bad_at_rule (F : FnE M "at_rule" s_at_rule P_at_rule) (X1 : DefX M 5 "check_one" (gOneX C0 C1)) : DefX M 6 "at_rule" (gOne3 C0 C1) :=
  defXE F c_at_rule (fun ds C ⟨_, _, _, h, _⟩ => by rw [h]; rfl) fun X E ds C hX ⟨dp, d, e, h, hb⟩ => by
    subst h
    exact Sxs.here (Sx.expr (Ex.call hX X1 (.cons (nmS hX.x 0) (.cons (nmS hX.x 1) .nil)) hb))
theorem bad_alike (F : FnE M "alike" s_alike P_alike) (X1 : DefX M 6 "check_two" (gTwoX C0 C1 C6)) : DefX M 7 "alike" (gTwoX C0 C1 C6) :=
  defXE F c_alike (fun ds C ⟨_, _, _, h, _⟩ => by rw [h]; rfl) fun X E ds C hX hb => by
    obtain ⟨dp, d1, d2, rfl, _⟩ := id hb
    exact Sxs.here (Sx.expr (Ex.call hX X1 (.cons (nmS hX.x 0) (.cons (nmS hX.x 1) (.cons (nmS hX.x 2) .nil))) hb))
theorem bad_check_rows (F : FnE M "check_rows" s_check_rows P_check_rows) (X1 : DefX M 2 "check_round" (gRoundX C0)) : DefX M 3 "check_rows" (gRound2 C0) :=
  defXE F c_check_rows (fun ds C ⟨_, _, h, _⟩ => by rw [h]; rfl) fun X E ds C hX ⟨dp, e, h, hb, hC⟩ => by
    subst h
    exact Sxs.here (Sx.expr (Ex.call hX X1 (.cons (nmS hX.x 0) .nil) ⟨dp, rfl, hb, hC⟩))
theorem bad_check_many (F : FnE M "check_many" s_check_many P_check_many) (X1 : DefX M 3 "check_rows" (gRound2 C0)) : DefX M 4 "check_many" (gRound3 C0) :=
  defXE F c_check_many (fun ds C ⟨_, _, _, h, _⟩ => by rw [h]; rfl) fun X E ds C hX ⟨dp, e, e2, h, hb, hC⟩ => by
    subst h
    exact Sxs.here (Sx.expr (Ex.call hX X1 (.cons (nmS hX.x 0) (.cons (nmS hX.x 1) .nil)) ⟨dp, e, rfl, hb, hC⟩))
theorem bad_how_many (F : FnE M "how_many" s_how_many P_how_many) (X1 : DefX M 3 "check_rows" (gRound2 C0)) : DefX M 4 "how_many" (gRound2 C0) :=
  defXE F c_how_many (fun ds C ⟨_, _, h, _⟩ => by rw [h]; rfl) fun X E ds C hX ⟨dp, e, h, hb, hC⟩ => by
    subst h
    exact Sxs.here (Sx.expr (Ex.call hX X1 (.cons (nmS hX.x 0) (.cons (nmS hX.x 1) .nil)) ⟨dp, e, rfl, hb, hC⟩))
theorem bad_of_order (F : FnE M "of_order" s_of_order P_of_order) (X1 : DefX M 4 "check_many" (gRound3 C0)) : DefX M 5 "of_order" (gRound3 C0) :=
  defXE F c_of_order (fun ds C ⟨_, _, _, h, _⟩ => by rw [h]; rfl) fun X E ds C hX ⟨dp, e, e2, h, hb, hC⟩ => by
    subst h
    exact Sxs.here (Sx.expr (Ex.call hX X1 (.cons (nmS hX.x 0) (.cons (nmS hX.x 1) (.cons (nmS hX.x 2) .nil))) ⟨dp, e, e2, rfl, hb, hC⟩))
theorem bad_table_by (F : FnE M "table_by" s_table_by P_table_by) (X1 : DefX M 4 "check_many" (gRound3 C0)) : DefX M 5 "table_by" (gRound4 C0) :=
  defXE F c_table_by (fun ds C ⟨_, _, _, _, h, _⟩ => by rw [h]; rfl) fun X E ds C hX ⟨dp, e, e2, e3, h, hb, hC⟩ => by
    subst h
    exact Sxs.here (Sx.expr (Ex.call hX X1 (.cons (nmS hX.x 0) (.cons (nmS hX.x 1) (.cons (nmS hX.x 2) .nil))) ⟨dp, e, e2, rfl, hb, hC⟩))
end
/-! ### helps for the laws' own ends -/
theorem tab_mk {p : Int} {n : Nat} {t : List (List Int)} (h : (decide (t.length = n) && t.all fun r => decide (r.length = n) && r.all fun x => decide (0 ≤ x) && decide (x < p)) = true) : Tab p n t := by
  simp only [Bool.and_eq_true, decide_eq_true_eq, List.all_eq_true] at h
  exact ⟨h.1, fun r hr => h.2 r hr⟩
section
variable {M : Md} {X : Cx} {ρ : Rho}
theorem e_tabI {es : List Expr} {pos : Pos} {t : List (List Int)} (h : EvA X ρ es (t.map tR)) (hz : t.length ≤ 1000 := by decide) : Ev X ρ (.List es pos) (.sh (dT t)) :=
  (Ev.list h (by rw [List.length_map]; exact Nat.le_of_lt (small1000 hz))).fz' (er_tT t)
end
/-! ### what is refused: groups.py -/
section
variable {M : Md} {C0 C1 C6 C7 : Addr}
noncomputable def gTsX (C0 C1 C6 C7 : Addr) (ds : List D) (C : Addr) : Prop := ∃ dp d, ds = [dp, d] ∧ ((badR dp ∧ C = C0) ∨ ∃ p, dp = .int p ∧ Round p ∧ ((badTs p d ∧ C = C1) ∨ ∃ ts, d = dTs ts ∧ (1 ≤ ts.length ∧ ts.length ≤ 3) ∧ (∀ t ∈ ts, isTable p t = true) ∧
  (((∃ t ∈ ts, t.length ≠ (ts.getD 0 []).length) ∧ C = C6) ∨ ∃ n, (1 ≤ n ∧ n ≤ 3) ∧ (∀ t ∈ ts, Tab p n t) ∧ (∃ t ∈ ts, rankL p n t < n) ∧ C = C7)))
theorem bad_tables (B : BI M.mg) (hany : M.mg "any" = none) (CMo : CM M) (e1 : ErrC M C1) (m1 : M.mg "BadTable" = some (.ref C1)) (e6 : ErrC M C6) (m6 : M.mg "Unlike" = some (.ref C6)) (e7 : ErrC M C7) (m7 : M.mg "NotUndone" = some (.ref C7))
    (F : FnE M "check_tables" s_check_tables P_check_tables) (H1 : DefOk M 2 "check_round" gRound) (X1 : DefX M 2 "check_round" (gRoundX C0)) (H2 : DefOk M 3 "is_table" gIsTableD) (H2' : DefOk M 3 "is_table" gIsTable) (H3 : DefOk M 3 "rank_of" gRankOf) : DefX M 4 "check_tables" (gTsX C0 C1 C6 C7) := by
  refine defXE F c_check_tables (fun ds C ⟨_, _, h, _⟩ => by rw [h]; rfl) fun X E ds C hX ⟨dp, d, h, hb⟩ => ?_
  subst h
  have x := hX.x
  rcases hb with ⟨hb, rfl⟩ | ⟨p, rfl, hr, hb⟩
  · exact Sxs.here (Sx.expr (Ex.call hX X1 (.cons (nmS x 0) .nil) ⟨dp, rfl, hb, rfl⟩))
  refine Sxs.skip (P := fun r => r = rho0 N_check_tables [.int p, d]) (Sm.expr (Ev.call x H1 (.cons (nm x 0) .nil) ⟨p, rfl, hr, rfl⟩) rfl) fun r h => ?_
  subst h
  rcases hb with ⟨⟨hk, hb⟩, rfl⟩ | ⟨ts, rfl, ⟨l1, l3⟩, ht, hb⟩
  · rcases lst_or (tsK_ok hk) with ⟨xs, rfl⟩ | hn
    · obtain ⟨k1, k2⟩ := and2 hk
      cases hl : (decide (1 ≤ (xs.length : Int)) && decide ((xs.length : Int) ≤ 3)) with
      | false => exact Sxs.here (Sx.ifr (Te.of (Tw.te (Tw.or (p := false) (Te.not (p := true) (Te.val (e_isi (q := true) x B.isinstance B.list PyProof.Rows.boot_list (nmS x 1) rfl (by decide +kernel)))) fun _ => Tw.or1 (Te.not (Te.chain CmpD.le CmpD.le Ev.int.rd (e_len x B.len (nmS x 1)).rd (e_most x CMo).rd)))) (by rw [hl]; rfl)) (Sxs.here (Sx.raise hX e1 m1)))
      | true =>
        have ha : xs.all (tabB' p) = false := by
          have hb' : ((decide (1 ≤ (xs.length : Int)) && decide ((xs.length : Int) ≤ 3)) && xs.all (tabB' p)) = false := hb
          rw [hl] at hb'
          exact hb'
        refine Sxs.skip (P := fun r => r = rho0 N_check_tables [.int p, .lst xs]) (Sm.ife (q := false) (Te.of (Tw.te (Tw.or (p := false) (Te.not (p := true) (Te.val (e_isi (q := true) x B.isinstance B.list PyProof.Rows.boot_list (nmS x 1) rfl (by decide +kernel)))) fun _ => Tw.or1 (Te.not (Te.chain CmpD.le CmpD.le Ev.int.rd (e_len x B.len (nmS x 1)).rd (e_most x CMo).rd)))) (by rw [hl]; rfl)) (fun h => nomatch h) fun _ => Ss.nil rfl) fun r h => ?_
        subst h
        exact Sxs.here (Sx.ifr (Te.of (Te.not (Te.val (e_allC (xs := xs) (f := tabB' p) x B.all (lcN (xs := xs) (en := fun d => d) x 2 (ItC.list (by rw [List.map_id']; exact Ev.lsS (nm x 1))) (fun X' b hX' a hm => Ev.call hX' H2 (.cons (nm hX' 0) (.cons (nm hX' 2) .nil)) ⟨p, a, rfl, List.all_eq_true.mp k1 a hm, rfl⟩) (sz (of_decide_eq_true k2)))))) (by rw [ha]; rfl)) (Sxs.here (Sx.raise hX e1 m1)))
    · obtain ⟨m, h1, h2⟩ := hn.kind
      exact Sxs.here (Sx.ifr (Tw.te (Tw.or (p := true) (q := true) (Te.not (p := false) (Te.val (e_isi x B.isinstance B.list PyProof.Rows.boot_list (nmS x 1) h1 h2))) fun h => nomatch h)) (Sxs.here (Sx.raise hX e1 m1)))
  · have a0 : atI (ts.map dT) 0 = some (dT (ts.getD 0 [])) := atI_T (x := 0) (by omega)
    have lz : ts.length ≤ sizeLine := sz (by omega)
    refine Sxs.skip (P := fun r => r = rho0 N_check_tables [.int p, dTs ts]) (Sm.ife (q := false) (Te.of (Tw.te (Tw.or (p := false) (Te.not (p := true) (Te.val (e_isi (q := true) x B.isinstance B.list PyProof.Rows.boot_list (nmS x 1) rfl (by decide +kernel)))) fun _ => Tw.or1 (Te.not (Te.chain CmpD.le CmpD.le Ev.int.rd (e_len x B.len (nmS x 1)).rd (e_most x CMo).rd)))) ?_) (fun h => nomatch h) fun _ => Ss.nil rfl) fun r h => ?_
    · rw [List.length_map, decide_eq_true (by omega), decide_eq_true (by omega)]
      rfl
    subst h
    refine Sxs.skip (P := fun r => r = rho0 N_check_tables [.int p, dTs ts]) (Sm.ife (q := false) (Te.of (Te.not (Te.val (e_allC (xs := ts) (f := fun t => isTable p t) x B.all (lcN (xs := ts) (en := dT) x 2 (ItC.list (Ev.lsS (nm x 1))) (fun X' b hX' t hm => Ev.call hX' H2' (.cons (nm hX' 0) (.cons (nm hX' 2) .nil)) ⟨p, t, rfl, (tab1000 (ht t hm)).1, (tab1000 (ht t hm)).2, rfl⟩) lz)))) ?_) (fun h => nomatch h) fun _ => Ss.nil rfl) fun r h => ?_
    · rw [Bool.not_eq_false', List.all_eq_true]
      exact ht
    subst h
    rcases hb with ⟨⟨t, hm, hn⟩, rfl⟩ | ⟨n, ⟨n1, n3⟩, hT, ⟨t, hm, hn⟩, rfl⟩
    · exact Sxs.here (Sx.ifr (Te.of (Te.val (e_anyC (xs := ts) (f := fun t => !decide ((t.length : Int) = ((ts.getD 0 []).length : Int))) x hany (lcN (xs := ts) (en := dT) x 2 (ItC.list (Ev.lsS (nm x 1))) (fun X' b hX' t ht => (Ev.cmp CmpD.neI (e_len hX' B.len (nmS hX' 2)).rd (e_len hX' B.len (Rd.ix (nmS hX' 1) Ev.int.rd a0)).rd).cast (by rw [List.length_map, List.length_map])) lz))) (List.any_eq_true.mpr ⟨t, hm, by rw [decide_eq_false (by omega)]; rfl⟩)) (Sxs.here (Sx.raise hX e6 m6)))
    · have R : Rnd p := ⟨hr⟩
      have hl0 : ∀ t ∈ ts, t.length = n := fun t h => (hT t h).len
      refine Sxs.skip (P := fun r => r = rho0 N_check_tables [.int p, dTs ts]) (Sm.ife (q := false) (Te.of (Te.val (e_anyC (xs := ts) (f := fun t => !decide ((t.length : Int) = ((ts.getD 0 []).length : Int))) x hany (lcN (xs := ts) (en := dT) x 2 (ItC.list (Ev.lsS (nm x 1))) (fun X' b hX' t ht => (Ev.cmp CmpD.neI (e_len hX' B.len (nmS hX' 2)).rd (e_len hX' B.len (Rd.ix (nmS hX' 1) Ev.int.rd a0)).rd).cast (by rw [List.length_map, List.length_map])) lz))) ?_) (fun h => nomatch h) fun _ => Ss.nil rfl) fun r h => ?_
      · rw [List.any_eq_false]
        intro t ht
        rw [hl0 t ht, hl0 _ (getD_mem [] (by omega)), decide_eq_true rfl]
        exact Bool.false_ne_true
      subst h
      refine Sxs.here (Sx.ifr (Te.of (Te.val (e_anyC (xs := ts) (f := fun t => decide ((rankL p n t : Int) < (n : Int))) x hany (lcN (xs := ts) (en := dT) x 2 (ItC.list (Ev.lsS (nm x 1))) (fun X' b hX' t ht => (Ev.cmp CmpD.lt (Ev.rdI (Ev.call hX' H3 (.cons (nm hX' 0) (.cons (nm hX' 2) .nil)) ⟨p, t, n, rfl, ⟨hr, by omega, by rw [(hT t ht).len]; omega, (hT t ht).rows⟩, rfl⟩)) (e_len hX' B.len (nmS hX' 2)).rd).cast (by rw [List.length_map, (hT t ht).len, rankG_eq R (hT t ht).rows])) lz))) ?_) (Sxs.here (Sx.raise hX e7 m7)))
      exact List.any_eq_true.mpr ⟨t, hm, decide_eq_true (by omega)⟩
theorem bad_made (F : FnE M "made" s_made P_made) (X1 : DefX M 4 "check_tables" (gTsX C0 C1 C6 C7)) : DefX M 5 "made" (gTsX C0 C1 C6 C7) :=
  defXE F c_made (fun ds C ⟨_, _, h, _⟩ => by rw [h]; rfl) fun X E ds C hX hb => by
    obtain ⟨dp, d, rfl, _⟩ := id hb
    exact Sxs.here (Sx.expr (Ex.call hX X1 (.cons (nmS hX.x 0) (.cons (nmS hX.x 1) .nil)) hb))
noncomputable def gWordX (C0 C1 C6 C7 : Addr) (ds : List D) (C : Addr) : Prop := ∃ dp d e, ds = [dp, d, e] ∧ (gTsX C0 C1 C6 C7 [dp, d] C ∨ ∃ p n ts, dp = .int p ∧ d = dTs ts ∧ GsOk p n ts ∧ (wordsL p n ts).length ≤ 200 ∧ ((badT p e ∧ C = C1) ∨ ∃ aim, e = dT aim ∧ isTable p aim = true ∧ aim.length ≠ n ∧ C = C6))
theorem bad_word (B : BI M.mg) (e6 : ErrC M C6) (m6 : M.mg "Unlike" = some (.ref C6)) (F : FnE M "word" s_word P_word) (X1 : DefX M 4 "check_tables" (gTsX C0 C1 C6 C7)) (H1 : DefOk M 4 "check_tables" gCheckTs) (H2 : DefOk M 4 "words_of" gWords) (H3 : DefOk M 4 "check_table" gCheckTable) (X3 : DefX M 4 "check_table" (gTableX C1)) : DefX M 5 "word" (gWordX C0 C1 C6 C7) := by
  refine defXE F c_word (fun ds C ⟨_, _, _, h, _⟩ => by rw [h]; rfl) fun X E ds C hX ⟨dp, d, e, h, hb⟩ => ?_
  subst h
  have x := hX.x
  rcases hb with hb | ⟨p, n, ts, rfl, rfl, G, hz, hb⟩
  · exact Sxs.here (Sx.expr (Ex.call hX X1 (.cons (nmS x 0) (.cons (nmS x 1) .nil)) hb))
  obtain ⟨a0, h0⟩ := G.a0
  refine Sxs.skip (P := fun r => r = rho0 N_word [.int p, dTs ts, e]) (Sm.expr (Ev.call x H1 (.cons (nm x 0) (.cons (nm x 1) .nil)) ⟨p, n, ts, rfl, G, rfl⟩) rfl) fun r h => ?_
  subst h
  refine Sxs.skip (P := fun r => ∃ t, r = (rho0 N_word [.int p, dTs ts, e]).set 3 (some t)) (Sm.set x 3 (Ev.call x H2 (.cons (Ev.wit0 (nm x 0)) (.cons (nm x 1) .nil)) ⟨fun _ => none, p, n, ts, rfl, G, hz, rfl⟩) ⟨_, rfl⟩) fun r ⟨t, h⟩ => ?_
  subst h
  rcases hb with ⟨hb, rfl⟩ | ⟨aim, rfl, ha, hn, rfl⟩
  · exact Sxs.here (Sx.expr (Ex.call hX X3 (.cons (nmS x 0) (.cons (nmS x 2) .nil)) ⟨p, e, rfl, hb, rfl⟩))
  · refine Sxs.skip (P := fun r => ∃ t, r = (rho0 N_word [.int p, dTs ts, dT aim]).set 3 (some t)) (Sm.expr (Ev.call x H3 (.cons (nm x 0) (.cons (nm x 2) .nil)) ⟨p, aim, rfl, ha, rfl⟩) ⟨t, rfl⟩) fun r ⟨t, h⟩ => ?_
    subst h
    refine Sxs.here (Sx.ifr (Te.of (Te.cmp CmpD.neI (e_len x B.len (nmS x 2)).rd (e_len x B.len (Rd.ix (nmS x 1) Ev.int.rd a0)).rd) ?_) (Sxs.here (Sx.raise hX e6 m6)))
    rw [List.length_map, List.length_map, h0, decide_eq_false (by omega)]
    rfl
end
/-! ### refusals: of which classes an error is -/
structure Nine (M : Md) (c : Nat → Addr) (CT : Addr) : Prop where
  m0 : M.mg "BadRound" = some (.ref (c 0))
  m1 : M.mg "BadTable" = some (.ref (c 1))
  m2 : M.mg "BadRow" = some (.ref (c 2))
  m3 : M.mg "BadCount" = some (.ref (c 3))
  m4 : M.mg "BadRule" = some (.ref (c 4))
  m5 : M.mg "BadNumber" = some (.ref (c 5))
  m6 : M.mg "Unlike" = some (.ref (c 6))
  m7 : M.mg "NotUndone" = some (.ref (c 7))
  m8 : M.mg "TooMany" = some (.ref (c 8))
  mt : M.mg "TurnError" = some (.ref CT)
  mi : M.mg "isinstance" = none
  mv : M.mg "ValueError" = none
structure KindOf (M : Md) (c : Nat → Addr) (CT : Addr) (C : Addr) (j : Nat) : Prop where
  er : ErrC M C
  ex : PySem.W.exmOne M.K (.ref C) (.ref CT) = some true
  k : ∀ i, i < 9 → PySem.W.kitOne M.K (.ref C) (.ref (c i)) = some (decide (j = i))
  kv : PySem.W.kitOne M.K (.ref C) (.type "ValueError") = some true
noncomputable def dueB9 (j : Nat) : List Bool := [decide (j = 0), decide (j = 1), decide (j = 2), decide (j = 3), decide (j = 4), decide (j = 5), decide (j = 6), decide (j = 7), decide (j = 8), true]
section
variable {M : Md} {N : List Str} {sc : Scope} {fc : Str → Bool} {k : Nat} {Z : Cx} {ρ : Rho} {x : Str} {p p1 p2 pos apos : Pos} {a C : Addr} {oe : Obj} {pn : List (Addr × Obj)} {d : D} {t : T} {e : Expr} {K : K3}
/-- a name in an except suite -/
theorem nmY (hZ : XF M N sc fc k Z) (i : Nat) (hr : ρ[i]? = some (some (.sh d)) := by rfl) (hN : N[i]? = some x := by rfl) (hv : visB sc x = true := by decide +kernel) : Ev (Z.suite a pn) ρ (.Name x pos) (.sh d) := by
  obtain ⟨h1, h2, h3⟩ := visB_ok hv
  exact Ev.name i hr (show Z.N[i]? = some x by rw [hZ.n]; exact hN) (show Vis Z.env.scope x by rw [hZ.s]; exact h1) h2 h3
theorem nmNY (hZ : XF M N sc fc k Z) (i : Nat) (hr : ρ[i]? = some (some t) := by rfl) (hN : N[i]? = some x := by rfl) (hv : visB sc x = true := by decide +kernel) : Pn (Z.suite a pn) ρ (.Name x pos) i [] := by
  obtain ⟨h1, h2, h3⟩ := visB_ok hv
  intro σ H F G Q S kk
  obtain ⟨v, F1, F2, F3, e1, r, e2, _⟩ := S.ro.get hr
  exact best.of (pe_var (X := Z.suite a pn) (show Z.N[i]? = some x by rw [hZ.n]; exact hN) (show Vis Z.env.scope x by rw [hZ.s]; exact h1) h2 h3) ⟨v, e1, kk v v H (.refl _) e1 rfl⟩
theorem Sm.setY (hZ : XF M N sc fc k Z) (i : Nat) (he : Ev (Z.suite a pn) ρ e t) (h : K.nx (ρ.set i (some t))) (hN : N[i]? = some x := by rfl) (hl : locB sc fc x = true := by decide +kernel)
    (hs : swapsWith e (some (.Name x p)) pos.line Z.env = pure false := by exact sw_no rfl) : Sm (Z.suite a pn) ρ (.Assign [.Name x p] e pos) K := fun σ H F G D S w => by
  obtain ⟨l1, l2⟩ := hZ.loc hl
  exact bestS.of (ps_set (X := Z.suite a pn) (show Z.N.Nodup by rw [hZ.n]; exact hZ.nd) (show Z.N[i]? = some x by rw [hZ.n]; exact hN) l1 pe_best hs l2) (he σ H F G _ S fun v H' E r => by
    obtain ⟨F', S', s⟩ := S.put r i
    exact w.nx _ H' _ F' S' s h)
/-- isinstance(error, C') -/
theorem e_isE {v : V} {cv : Value} {dc : D} {b : Bool} (hZ : XF M N sc fc k Z) (er : ErrC M C) (hz : Zc (.ref C) none oe) (hf : ∃ vs, oe.data = .fields vs) (hm : M.mg "isinstance" = none) (hx : Rd (Z.suite a ((a, oe) :: pn)) ρ e (.at a)) (hc : Ev (Z.suite a ((a, oe) :: pn)) ρ (.Name x p2) (.sh dc)) (hv : ∀ H w, Rp M.K H w dc → ∀ u, RelV w u → u = cv)
    (hk : PySem.W.kitOne M.K (.ref C) cv = some b) (hg : glB sc "isinstance" = true := by decide +kernel) (hs : starEach (e :: [.Name x p2]) Z.env = (false, eval e Z.env) :: starEach [.Name x p2] Z.env := by rfl) : Ev (Z.suite a ((a, oe) :: pn)) ρ (.Call (.Name "isinstance" p) [e, .Name x p2] [] pos) (.sh (.bl b)) := by
  obtain ⟨h1, h2⟩ := hZ.gl hg
  have eK : Z.K = M.K := hZ.K
  exact Ev.of_sc (pe_callB (X := Z.suite a ((a, oe) :: pn)) (call_isE (X := Z) (D := C) (by rw [eK]; exact er.e) hz hf) h1 (show Z.mg _ = none by rw [hZ.m]; exact hm) (by decide +kernel) pa_best (by decide) h2 hs rfl) trivial fun σ H F G Q S q =>
    (RdA.cons hx (.one hc.rd) hs) σ H F G _ S fun vs H' s r => by
      obtain ⟨u, w, rfl, r1, r2⟩ := r.two
      have : u = .ref a := by
        cases r1
        rfl
      subst this
      have r2' : Rp M.K H' w dc := by rw [← eK]; exact r2
      exact ⟨w, cv, b, rfl, hv H' w r2', by rw [show (Z.suite a ((a, oe) :: pn)).K = M.K from eK]; exact hk, q _ H' s (.bl b)⟩
theorem e_isEc {C' : Addr} {b : Bool} (hZ : XF M N sc fc k Z) (er : ErrC M C) (hz : Zc (.ref C) none oe) (hf : ∃ vs, oe.data = .fields vs) (hm : M.mg "isinstance" = none) (hm2 : M.mg x = some (.ref C')) (hx : Rd (Z.suite a ((a, oe) :: pn)) ρ e (.at a))
    (hk : PySem.W.kitOne M.K (.ref C) (.ref C') = some b) (hg : glB sc "isinstance" = true := by decide +kernel) (hg2 : glB sc x = true := by decide +kernel) (hs : starEach (e :: [.Name x p2]) Z.env = (false, eval e Z.env) :: starEach [.Name x p2] Z.env := by rfl) : Ev (Z.suite a ((a, oe) :: pn)) ρ (.Call (.Name "isinstance" p) [e, .Name x p2] [] pos) (.sh (.bl b)) := by
  obtain ⟨h1, h2⟩ := hZ.gl hg2
  refine e_isE (v := .ref C') (cv := .ref C') (dc := .at C') hZ er hz hf hm hx (Ev.glob (X := Z.suite a ((a, oe) :: pn)) (v := .ref C') h1 (show Z.mg x = _ by rw [hZ.m]; exact hm2) rfl trivial (fun H => .at C') h2) (fun H w r u q => ?_) hk hg hs
  cases r
  exact q
theorem e_isEv {b : Bool} (hZ : XF M N sc fc k Z) (er : ErrC M C) (hz : Zc (.ref C) none oe) (hf : ∃ vs, oe.data = .fields vs) (hm : M.mg "isinstance" = none) (hm2 : M.mg "ValueError" = none) (hx : Rd (Z.suite a ((a, oe) :: pn)) ρ e (.at a))
    (hk : PySem.W.kitOne M.K (.ref C) (.type "ValueError") = some b) (hg : glB sc "isinstance" = true := by decide +kernel) (hg2 : glB sc "ValueError" = true := by decide +kernel) (hs : starEach (e :: [.Name "ValueError" p2]) Z.env = (false, eval e Z.env) :: starEach [.Name "ValueError" p2] Z.env := by rfl) : Ev (Z.suite a ((a, oe) :: pn)) ρ (.Call (.Name "isinstance" p) [e, .Name "ValueError" p2] [] pos) (.sh (.bl b)) := by
  obtain ⟨h1, h2⟩ := hZ.gl hg2
  refine e_isE (v := .ty "ValueError") (cv := .type "ValueError") (dc := .ty "ValueError") hZ er hz hf hm hx (Ev.of_sc (pe_bltn (X := Z.suite a ((a, oe) :: pn)) h1 (show Z.mg _ = none by rw [hZ.m]; exact hm2) (by decide +kernel) (v := .ty "ValueError") rfl (by decide) h2) trivial fun σ H F G Q S k => k _ H (.refl _) (.ty _)) (fun H w r u q => ?_) hk hg hs
  cases r
  exact q
end
section
variable {M : Md} {c : Nat → Addr} {CT C : Addr} {j : Nat}
/-- the suite of the except clause -/
theorem kinds_suite {k : Nat} {Z : Cx} {a : Addr} {oe : Obj} {pn : List (Addr × Obj)} (hZ : XF M N__law_kinds (defScope s__law_kinds) (fun _ => true) k Z) (NI : Nine M c CT) (KO : KindOf M c CT C j) (hz : Zc (.ref C) none oe) (hf : ∃ vs, oe.data = .fields vs) :
    Ss (Z.suite a ((a, oe) :: pn)) [none, none, some (.sh (.at a))] (match defBody s__law_kinds with | [_, .Try _ [.ExceptHandler _ _ s _] _ _ _, _] => s | _ => []) { nx := fun ρ => ρ = [none, some (.lst ((dueB9 j).map fun b => .sh (.bl b))), some (.sh (.at a))], rt := fun _ => False } := by
  have kk := fun i h => KO.k i h
  have mi := NI.mi
  refine Ss.cons (Sm.setY hZ 1 (Ev.list (.cons (e_isEc hZ KO.er hz hf mi NI.m0 (nmY hZ 2).rd (kk 0 (by decide))) (.cons (e_isEc hZ KO.er hz hf mi NI.m1 (nmY hZ 2).rd (kk 1 (by decide))) (.cons (e_isEc hZ KO.er hz hf mi NI.m2 (nmY hZ 2).rd (kk 2 (by decide))) .nil)))) (Ss.frz 1 ?_))
  refine Ss.cons (Sm.setY hZ 1 (Ev.cat (Ev.lsS (nmY hZ 1)) (Ev.ls (Ev.list (.cons (e_isEc hZ KO.er hz hf mi NI.m3 (nmY hZ 2).rd (kk 3 (by decide))) (.cons (e_isEc hZ KO.er hz hf mi NI.m4 (nmY hZ 2).rd (kk 4 (by decide))) (.cons (e_isEc hZ KO.er hz hf mi NI.m5 (nmY hZ 2).rd (kk 5 (by decide))) .nil))))) (sz (Nat.le_of_ble_eq_true rfl))) (Ss.frz 1 ?_))
  refine Ss.cons (Sm.setY hZ 1 (Ev.cat (Ev.lsS (nmY hZ 1)) (Ev.ls (Ev.list (.cons (e_isEc hZ KO.er hz hf mi NI.m6 (nmY hZ 2).rd (kk 6 (by decide))) (.cons (e_isEc hZ KO.er hz hf mi NI.m7 (nmY hZ 2).rd (kk 7 (by decide))) (.cons (e_isEc hZ KO.er hz hf mi NI.m8 (nmY hZ 2).rd (kk 8 (by decide))) .nil))))) (sz (Nat.le_of_ble_eq_true rfl))) ?_)
  exact Ss.cons (Sm.app (nmNY hZ 1) (e_isEv hZ KO.er hz hf mi NI.mv (nmY hZ 2).rd KO.kv) (Ss.nil rfl) (Nat.lt_of_lt_of_le (by decide : 9 < 1000) (sz (Nat.le_refl 1000))) rfl rfl)
end
/-! ### refusals: what _law_kinds tells of a lambda that raises -/
open LamX
noncomputable abbrev kSuite : List Stmt := match defBody s__law_kinds with | [_, .Try _ [.ExceptHandler _ _ s _] _ _ _, _] => s | _ => []
theorem len3 {α : Type} {xs : List α} (h : xs.length = 3) : ∃ a b c, xs = [a, b, c] := match xs, h with | [a, b, c], _ => ⟨a, b, c, rfl⟩
section
variable {M : Md} {c : Nat → Addr} {CT C : Addr} {j : Nat}
theorem kinds_body {k : Nat} {Z X : Cx} {ρ : Rho} {σ : L2.St} {H1 : Hp} {f c' : Addr} {q : Str} {Q : VK} (hs : Z.stack = Z.env :: Z.outer) (hfr : Z.env.frame = some Z.env.locals) (hZ : XF M N__law_kinds (defScope s__law_kinds) (fun _ => true) k Z.nox) (NI : Nine M c CT) (KO : KindOf M c CT C j)
    (act : Act X ρ σ Z "_law_ask" q f c' C) (S : SN X.K σ H1 ρ) (hc : H1 c' = some (CodeO c' q)) (hq : ∀ v H', Same H1 H' → Rp M.K H' v (.lst ((dueB9 j).map D.bl)) → Q v H') :
    bestSs Z.nox (defBody s__law_kinds) { nx := fun _ H' => Q .non H', rt := Q } (L2.start N__law_kinds [.ref f]) H1 := by
  have eK : Z.nox.K = M.K := hZ.K
  have S0 : S3 Z.nox.K [] (L2.start N__law_kinds [.ref f]) H1 (rho0 N__law_kinds [.at f]) [] := ⟨.yes (F := []) (.sh (.at f)) (.no (.no .nil)), List.nodup_nil, fun _ z => nomatch z⟩
  refine bestSs.of (pss_cons ps_best pss_best) ((Sm.set (K := { nx := fun r => r = [some (.sh (.at f)), some (.lst []), none], rt := fun _ => False }) hZ 1 (Ev.list .nil) rfl) _ H1 [] [] _ S0 ⟨fun σ1 H2 ρ1 F1 S1 st e => ?_, fun _ _ _ _ _ _ _ _ z => z.elim, fun _ _ _ _ _ _ z => z.elim, fun _ _ _ _ _ _ z => z.elim⟩)
  subst e
  have s12 := st.same
  obtain ⟨g1, g2⟩ := hZ.gl (x := "TurnError") (by decide +kernel)
  refine bestSs.of (pss_cons (ps_try_as (X := Z.nox) (x := "TurnError") (n := "error") (c := .ref CT) (i := 2) (Wout := fun _ _ _ _ => False)
    (tb := fun W D σ' H' => ∃ E' : XK, (∀ cls d σ' H', E' cls d H' → W cls d σ' H') ∧ σ'[0]? = some (some (.ref f)) ∧ H' c' = some (CodeO c' q) ∧ SN X.K σ H' ρ ∧ ∀ H'', Same H' H'' → E' (.ref C) none H'')
    (ts := fun a cls d D σ' H' => ∀ (oe : Obj) (pn : List (Addr × Obj)), Zc cls d oe → (∃ vs, oe.data = .fields vs) → bestSs (Z.nox.suite a ((a, oe) :: pn)) kSuite D σ' H')
    hs hfr (by rw [hZ.n]; exact hZ.nd) (by rw [hZ.n]; rfl) (show Z.nox.env.scope.names.lookup _ = _ by rw [hZ.s]; decide +kernel) ⟨g1, g2, .inl (by rw [hZ.m]; exact NI.mt)⟩ takes0 (fun W pn xe tk _ => ?_) (fun a oe cls d pn hz hf => ⟨fun pins s σ' H' D I h => (h oe pn hz hf).run pins s I⟩)) pss_best) ?_
  · exact ⟨fun pins s σ' H' D I ⟨E', h1, h2⟩ => (pss_one (ps_expr (act W pn xe E' _ _ tk h1) (by exact sw_no rfl))).run pins s σ' H' D I h2⟩
  · obtain ⟨v0, F2, F3, F4, e0, r0, _, _⟩ := S1.ro.get (i := 0) rfl
    have ev : v0 = .ref f := by
      cases r0 with
      | sh r0 =>
        cases r0
        rfl
    subst ev
    refine ⟨fun cls d H' => cls = .ref C ∧ d = none ∧ Same H2 H', fun cls d σ' H' ⟨z1, z2, z3⟩ => ?_, e0, s12 _ _ hc, S.ext (.of s12), fun H'' z => ⟨rfl, rfl, z⟩⟩
    subst z1 z2
    refine ⟨true, by rw [eK]; exact KO.ex, fun _ a na oe pn hz hf => ⟨fun pins s I => ?_⟩, fun z => nomatch z⟩
    have hl : (σ'.set 2 (some (.ref a))).length = 3 := by
      have := I.len
      rw [show (Z.nox.suite a ((a, oe) :: pn)).N = N__law_kinds from hZ.n] at this
      exact this
    rw [List.length_set] at hl
    obtain ⟨x0, x1, x2, rfl⟩ := len3 hl
    have SY : S3 Z.nox.K [] [x0, x1, some (.ref a)] H' [none, none, some (.sh (.at a))] [] := ⟨.no (.no (.yes (F := []) (.sh (.at a)) .nil)), List.nodup_nil, fun _ z => nomatch z⟩
    refine ((kinds_suite hZ NI KO hz hf) _ H' [] [] _ SY ⟨fun σ5 H5 ρ5 F5 S5 st5 e5 => ?_, fun _ _ _ _ _ _ _ _ z => z.elim, fun _ _ _ _ _ _ z => z.elim, fun _ _ _ _ _ _ z => z.elim⟩).run pins s I
    subst e5
    obtain ⟨F6, S6, st6⟩ := S5.drop 2
    have S7 : S3 Z.nox.K [] (σ5.set 2 none) H5 [none, some (.lst ((dueB9 j).map fun b => .sh (.bl b))), none] F6 := ⟨S6.ro.non rfl, S6.nd, S6.gs⟩
    refine (Ss.frz (t := .lst ((dueB9 j).map fun b => .sh (.bl b))) (K := { nx := fun _ => False, rt := fun t => t = .sh (.lst ((dueB9 j).map D.bl)) }) 1 (d := .lst ((dueB9 j).map D.bl)) (Ss.cons (Sm.ret (nm hZ 1) rfl)) rfl (congrArg D.lst (ers_mapG (fun b => T.sh (.bl b)) D.bl (fun _ => rfl) (dueB9 j)))) _ H5 F6 [] _ S7 ⟨fun _ _ _ _ _ _ z => z.elim, fun v H8 t E r n _ st8 e8 => ?_, fun _ _ _ _ _ _ z => z.elim, fun _ _ _ _ _ _ z => z.elim⟩
    subst e8
    have r8 : Rp Z.nox.K H8 v (.lst ((dueB9 j).map D.bl)) := r.rp del_le fun _ _ _ q => q
    have stx : Stp [] F1 [] H2 H' := ⟨(del_le (F := F1 ++ []) (H := H2)).trans (z3.trans (by rw [List.append_nil, del_nil]; exact .refl _)), fun _ z => nomatch z⟩
    exact hq v H8 ((((st.trans stx).trans st5).trans st6).trans st8).same (by rw [← eK]; exact r8)
end
/-! ### refusals: _law_kinds(lambda: ..) != _law_due_of(..) -/
open LamX
noncomputable abbrev lamQ (x : Str) : Str := (x ++ (".<locals>." : Str)) ++ ("<lambda>" : Str)
theorem ok_bl9 (bs : List Bool) : Ok 1 (.lst (bs.map D.bl)) := ok_lst (n := 0) fun d hd => by
  obtain ⟨b, _, rfl⟩ := List.mem_map.mp hd
  exact ok_bl
theorem eqb_bl9 (as bs : List Bool) : eqb (.lst (as.map D.bl)) (.lst (bs.map D.bl)) = decide (as = bs) := eqb_map _ eqb_bl as bs
section
variable {M : Md} {c : Nat → Addr} {CT C : Addr} {j : Nat}
noncomputable def gDueOf (ds : List D) (t : T) : Prop := ∃ j : Nat, ds = [.int j] ∧ t = .sh (.lst ((dueB9 j).map D.bl))
theorem ok_due_of (B : BI M.mg) (F : FnE M "_law_due_of" s__law_due_of P__law_due_of) : DefOk M 1 "_law_due_of" gDueOf := by
  refine def_okE F c__law_due_of (fun ds t ⟨j, h, _⟩ => by rw [h]; rfl) fun X ds t hX ⟨j, h, ht⟩ => ?_
  subst h ht
  refine Ss.cons (Sm.ret ((Ev.cat (Ev.lsQ (ds := ((List.range 9).map fun i => decide (j = i)).map D.bl) (lcN (xs := List.range 9) (g := fun i => .sh (.bl (decide (j = i)))) hX 1 (itRange hX B.range Ev.int.rd (by decide)).c (fun X' b hX' i hi => (Ev.cmp CmpD.eqI (nmS hX' 0) (nmS hX' 1)).cast ?_) (sz (by decide))) ?_) (Ev.ls (Ev.list (.cons Ev.bl .nil))) ?_).fz' (d := .lst ((dueB9 j).map D.bl)) ?_) rfl)
  · exact congrArg (fun b => T.sh (.bl b)) (by
      by_cases e : j = i
      · rw [decide_eq_true e, decide_eq_true (by omega)]
      · rw [decide_eq_false e, decide_eq_false (by omega)])
  · rw [ers_mapG _ (fun i : Nat => D.bl (decide (j = i))) fun _ => rfl, List.map_map]
    rfl
  · rw [List.length_map, List.length_map]
    exact sz (Nat.le_of_ble_eq_true rfl)
  · rfl
theorem TeN.kinds {k : Nat} {N : List Str} {sc scope : Scope} {fc : Str → Bool} {X : Cx} {ρ : Rho} {T : List (Addr × Str)} {params : Arguments} {body : Expr} {p p2 p3 lpos pos pos2 pos3 : Pos} {n : Nat} (B : BI M.mg) (hX : XF M N sc fc (k + 2) X) (LM : LamM M X T) (F : FnE M "_law_kinds" s__law_kinds P__law_kinds) (NI : Nine M c CT) (KO : KindOf M c CT C j) (H1 : DefOk M 1 "_law_due_of" gDueOf)
    (hbody : ∀ Y E, XX M N scope (fun _ => false) k Y E → Ex Y E ρ body C) (L : lamSB sc scope = true := by decide +kernel) (hg : glB sc "_law_kinds" = true := by decide +kernel) (hg2 : glB sc "_law_due_of" = true := by decide +kernel) (hdef : defaultsOf params X.env = ([], []) := by rfl)
    (hbind : ∀ (q : Str) (cl : List (Str × Addr)) (pm cv ctv : Value), bindArgs (PySem.W.kla_fn "<lambda>" q params body scope cl pm cv ctv) ⟨[], []⟩ = pure [] := by intros; rfl) :
    TeN X T ρ (.Compare (.Call (.Name "_law_kinds" p) [.Lambda params body scope lpos] [] pos) [.NotEq] [.Call (.Name "_law_due_of" p2) [.Constant (.int j) n p3] [] pos2] pos3) false := fun σ H Q S t kk => by
  obtain ⟨g, fd, ⟨⟨oc, od, kV, doc, pm, an, cdv, ct, osl, rfl, lk, hcg⟩, hk⟩, hm, hb⟩ := F
  obtain ⟨lc, P, TB, hcode, hmT, hu⟩ := LM
  obtain ⟨g1, g2⟩ := hX.gl hg
  obtain ⟨r, ho, hq⟩ := CmpD.ne (X := X) hX.room (ok_bl9 (dueB9 j)) (ok_bl9 (dueB9 j))
  obtain ⟨v1, v2, v3⟩ := visB_ok (show visB (defScope s__law_kinds) "_law_ask" = true by decide +kernel)
  refine bestT.of (pt_cmpR ho pe_best pe_best rfl) ?_
  refine lam_call hX g1 (by rw [hX.m]; exact hm) (by rw [hX.K]; exact hk) (by rw [hX.K]; exact lk) (by rw [hX.K]; exact hcg) (by rw [hX.K]; exact hb) c__law_kinds rfl v1 (by rw [hX.b, hX.m]; exact TB) hcode hmT hu (lamS_by (by rw [hX.s]; exact L)) hdef hbind hbody (fun f c' z H1' eN T1 hco hZ act => ?_) t g2
  refine kinds_body (Q := fun u H' => best X (.Call (.Name "_law_due_of" p2) [.Constant (.int j) n p3] [] pos2) σ H' fun y H2 => r u y H2 fun x H' => ∃ k, x = V.bl k ∧ Q k H') rfl rfl hZ NI KO act (S.ext eN) hco fun v H' s rv => ?_
  have S1 : SN X.K σ H' ρ := (S.ext eN).ext (.of s)
  refine Ev.call hX H1 (.cons Ev.int .nil) ⟨j, rfl, rfl⟩ (by omega) hg2 rfl rfl σ H' [] [] _ S1.s3 fun w H2 E2 r2 => hq v w H2 _ (by rw [hX.K]; exact rv.sm r2.sm) r2.rp ⟨_, rfl, ?_⟩
  rw [eqb_bl9, decide_eq_true rfl]
  exact kk H2 ((eN.trans (.of s)).trans (.of r2.sm)) ((T1.ext s).ext r2.sm)
/-- what are no numbers from 0 on -/
noncomputable def strangeD (far : Int) : List D := [.non, .str "1", .bl true, .bl false, .lst [.int 1], .tup [.int 1], .dic [], .int (-1), .int (-1 - far)]
noncomputable def gStrange (ds : List D) (t : T) : Prop := ∃ far : Int, ds = [.int far] ∧ t = .sh (.lst (strangeD far))
theorem ok_strange (F : FnE M "_law_strange" s__law_strange P__law_strange) : DefOk M 1 "_law_strange" gStrange := by
  refine def_okE F c__law_strange (fun ds t ⟨far, h, _⟩ => by rw [h]; rfl) fun X ds t hX ⟨far, h, ht⟩ => ?_
  subst h ht
  exact Ss.cons (Sm.ret ((Ev.list (.cons Ev.non (.cons Ev.str (.cons Ev.bl (.cons Ev.bl (.cons (Ev.list (.cons Ev.int .nil)) (.cons (Ev.tup (.cons Ev.int .nil)) (.cons Ev.dic0 (.cons (Ev.neg Ev.int.rd) (.cons (Ev.sub (Ev.neg Ev.int.rd).rd (nmS hX 0)) .nil)))))))))).fz' (d := .lst (strangeD far)) rfl) rfl)
end
/-! ### k10: no rounds -/
open LamX
section
variable {M : Md} {c : Nat → Addr} {CT : Addr} {Ts : List (Addr × Str)} {cc P : Addr}
noncomputable def gFarB (ds : List D) (b : Bool) : Prop := ∃ far : Int, ds = [.int far] ∧ 1 ≤ far ∧ b = true
noncomputable def badRs (far : Int) : List D := strangeD far ++ [.int 0, .int 1, .int 4, .int 6, .int 9, .int 11, .int (7 + far + 1), .int (2 * far + 8)]
theorem badRs_ok {far : Int} (h : 1 ≤ far) : ∀ d ∈ badRs far, badR d ∧ nf d = true := by
  intro d hd
  unfold badRs strangeD at hd
  simp only [List.cons_append, List.nil_append, List.mem_cons, List.not_mem_nil, or_false] at hd
  rcases hd with rfl | rfl | rfl | rfl | rfl | rfl | rfl | rfl | rfl | rfl | rfl | rfl | rfl | rfl | rfl | rfl | rfl
  all_goals first
    | exact ⟨.inl rfl, rfl⟩
    | exact ⟨.inr ⟨_, rfl, fun z => by unfold Round at z; omega⟩, rfl⟩
theorem nfR3 {far : Int} {d : D} (h : nf d = true) : nfR [some (.sh (.int far)), some (.sh d), none] = true := by
  show (true && (nf d && true)) = true
  rw [h]
  rfl
theorem ok_rounds_right (B : BI M.mg) (FK : FnE M "_law_kinds" s__law_kinds P__law_kinds) (NI : Nine M c CT) (KO : KindOf M c CT (c 0) 0) (HD : DefOk M 1 "_law_due_of" gDueOf) (HS : DefOk M 1 "_law_strange" gStrange) (F : FnC M "_law_rounds_right" s__law_rounds_right P__law_rounds_right cc) (TB : TabB M.base M.mg cc P)
    (hT : (P, lamQ "_law_rounds_right") ∈ Ts) (hu : ∀ p ∈ Ts, p.1 = P → p.2 = lamQ "_law_rounds_right")
    (Y1 : DefX M 6 "undone" (gOneX (c 0) (c 1))) (Y2 : DefX M 6 "rank" (gOneX (c 0) (c 1))) (Y3 : DefX M 6 "worth" (gOneX (c 0) (c 1))) (Y4 : DefX M 6 "least_rule" (gOneX (c 0) (c 1))) (Y5 : DefX M 6 "own_rule" (gOneX (c 0) (c 1))) (Y6 : DefX M 6 "spanning" (gOneX (c 0) (c 1))) (Y7 : DefX M 6 "comes_round" (gOneX (c 0) (c 1))) (Y8 : DefX M 6 "back" (gOneX (c 0) (c 1)))
    (Y9 : DefX M 4 "how_many" (gRound2 (c 0))) (Y10 : DefX M 6 "number_of" (gOneX (c 0) (c 1))) (Y11 : DefX M 5 "made" (gTsX (c 0) (c 1) (c 6) (c 7)))
    (Z1 : DefX M 6 "moved" (gOneM (c 0) (c 1))) (Z2 : DefX M 7 "behind" (gTwoX (c 0) (c 1) (c 6))) (Z3 : DefX M 7 "together" (gTwoX (c 0) (c 1) (c 6))) (Z4 : DefX M 6 "turned" (gOne3 (c 0) (c 1))) (Z5 : DefX M 6 "at_rule" (gOne3 (c 0) (c 1))) (Z6 : DefX M 7 "alike" (gTwoX (c 0) (c 1) (c 6))) (Z7 : DefX M 5 "of_order" (gRound3 (c 0))) (Z8 : DefX M 5 "word" (gWordX (c 0) (c 1) (c 6) (c 7)))
    (W1 : DefX M 5 "table_by" (gRound4 (c 0))) : DefN M Ts 10 "_law_rounds_right" gFarB := by
  refine defN F c__law_rounds_right TB hT hu (fun ds b ⟨far, h, _⟩ => by rw [h]; exact ⟨rfl, rfl⟩) fun X ds b hX LM ⟨far, h, hf, hb⟩ => ?_
  subst h hb
  obtain ⟨f1, m1, a1⟩ := Y1.ask
  obtain ⟨f2, m2, a2⟩ := Y2.ask
  obtain ⟨f3, m3, a3⟩ := Y3.ask
  obtain ⟨f4, m4, a4⟩ := Y4.ask
  obtain ⟨f5, m5, a5⟩ := Y5.ask
  obtain ⟨f6, m6, a6⟩ := Y6.ask
  obtain ⟨f7, m7, a7⟩ := Y7.ask
  obtain ⟨f8, m8, a8⟩ := Y8.ask
  obtain ⟨f9, m9, a9⟩ := Y9.ask
  obtain ⟨f10, m10, a10⟩ := Y10.ask
  obtain ⟨f11, m11, a11⟩ := Y11.ask
  obtain ⟨g1, n1, b1⟩ := Z1.ask
  obtain ⟨g2, n2, b2⟩ := Z2.ask
  obtain ⟨g3, n3, b3⟩ := Z3.ask
  obtain ⟨g4, n4, b4⟩ := Z4.ask
  obtain ⟨g5, n5, b5⟩ := Z5.ask
  obtain ⟨g6, n6, b6⟩ := Z6.ask
  obtain ⟨g7, n7, b7⟩ := Z7.ask
  obtain ⟨g8, n8, b8⟩ := Z8.ask
  have ok := badRs_ok hf
  refine SsN.for (xs := badRs far) (en := fun d => d) hX 1 (ItN.list (by
      rw [List.map_id']
      exact (Ev.cat (Ev.lsS (Ev.call hX HS (.cons (nm hX 0) .nil) ⟨far, rfl, rfl⟩)) (Ev.ls (Ev.list (.cons Ev.int (.cons Ev.int (.cons Ev.int (.cons Ev.int (.cons Ev.int (.cons Ev.int (.cons (Ev.add (Ev.rdI (Ev.add Ev.int.rd (nmS hX 0))) Ev.int.rd) (.cons (Ev.add (Ev.rdI (Ev.mul Ev.int.rd (nmS hX 0) (.inl (by decide)))) Ev.int.rd) .nil)))))))))) (sz (Nat.le_of_ble_eq_true rfl))).fz' (er_shs _)) (by rw [List.map_id']; exact nfs_all fun d hd => (ok d hd).2)) (fun d hd => ?_) (fun d hd => (ok d hd).2) (SsN.sm (Sm.ret Ev.bl rfl))
  obtain ⟨hbad, hn⟩ := ok d hd
  have ask1 : ∀ f ∈ [f1, f2, f3, f4, f5, f6, f7, f8, f9, f10, f11], AskX M f [d, .non] (c 0) := by
    intro f hf
    simp only [List.mem_cons, List.not_mem_nil, or_false] at hf
    rcases hf with rfl | rfl | rfl | rfl | rfl | rfl | rfl | rfl | rfl | rfl | rfl
    · exact a1 _ _ ⟨d, .non, rfl, .inl ⟨hbad, rfl⟩⟩
    · exact a2 _ _ ⟨d, .non, rfl, .inl ⟨hbad, rfl⟩⟩
    · exact a3 _ _ ⟨d, .non, rfl, .inl ⟨hbad, rfl⟩⟩
    · exact a4 _ _ ⟨d, .non, rfl, .inl ⟨hbad, rfl⟩⟩
    · exact a5 _ _ ⟨d, .non, rfl, .inl ⟨hbad, rfl⟩⟩
    · exact a6 _ _ ⟨d, .non, rfl, .inl ⟨hbad, rfl⟩⟩
    · exact a7 _ _ ⟨d, .non, rfl, .inl ⟨hbad, rfl⟩⟩
    · exact a8 _ _ ⟨d, .non, rfl, .inl ⟨hbad, rfl⟩⟩
    · exact a9 _ _ ⟨d, .non, rfl, hbad, rfl⟩
    · exact a10 _ _ ⟨d, .non, rfl, .inl ⟨hbad, rfl⟩⟩
    · exact a11 _ _ ⟨d, .non, rfl, .inl ⟨hbad, rfl⟩⟩
  have ask2 : ∀ f ∈ [g1, g2, g3, g4, g5, g6, g7, g8], AskX M f [d, .non, .non] (c 0) := by
    intro f hf
    simp only [List.mem_cons, List.not_mem_nil, or_false] at hf
    rcases hf with rfl | rfl | rfl | rfl | rfl | rfl | rfl | rfl
    · exact b1 _ _ ⟨d, .non, .non, rfl, d, .non, rfl, .inl ⟨hbad, rfl⟩⟩
    · exact b2 _ _ ⟨d, .non, .non, rfl, .inl ⟨d, .non, rfl, .inl ⟨hbad, rfl⟩⟩⟩
    · exact b3 _ _ ⟨d, .non, .non, rfl, .inl ⟨d, .non, rfl, .inl ⟨hbad, rfl⟩⟩⟩
    · exact b4 _ _ ⟨d, .non, .non, rfl, d, .non, rfl, .inl ⟨hbad, rfl⟩⟩
    · exact b5 _ _ ⟨d, .non, .non, rfl, d, .non, rfl, .inl ⟨hbad, rfl⟩⟩
    · exact b6 _ _ ⟨d, .non, .non, rfl, .inl ⟨d, .non, rfl, .inl ⟨hbad, rfl⟩⟩⟩
    · exact b7 _ _ ⟨d, .non, .non, rfl, hbad, rfl⟩
    · exact b8 _ _ ⟨d, .non, .non, rfl, .inl ⟨d, .non, rfl, .inl ⟨hbad, rfl⟩⟩⟩
  refine SsN.for (xs := [f1, f2, f3, f4, f5, f6, f7, f8, f9, f10, f11]) (en := D.at) hX 2 (ItN.tup (Ev.tup (.cons (Ev.fn hX m1) (.cons (Ev.fn hX m2) (.cons (Ev.fn hX m3) (.cons (Ev.fn hX m4) (.cons (Ev.fn hX m5) (.cons (Ev.fn hX m6) (.cons (Ev.fn hX m7) (.cons (Ev.fn hX m8) (.cons (Ev.fn hX m9) (.cons (Ev.fn hX m10) (.cons (Ev.fn hX m11) .nil)))))))))))) rfl) (fun f hf' => ?_) (fun _ _ => rfl) ?_
  · exact SsN.skip (TeN.kinds B hX LM FK NI KO HD fun Y E hY => by
      obtain ⟨g, hF, q⟩ := ask1 f hf'
      exact Ex.callV hY 2 hF (.cons (nmS hY.x 1) (.cons Ev.non.rd .nil)) q) (SsN.drop 2 (nfR3 hn) (SsN.nil rfl))
  refine SsN.for (xs := [g1, g2, g3, g4, g5, g6, g7, g8]) (en := D.at) hX 2 (ItN.tup (Ev.tup (.cons (Ev.fn hX n1) (.cons (Ev.fn hX n2) (.cons (Ev.fn hX n3) (.cons (Ev.fn hX n4) (.cons (Ev.fn hX n5) (.cons (Ev.fn hX n6) (.cons (Ev.fn hX n7) (.cons (Ev.fn hX n8) .nil))))))))) rfl) (fun f hf' => ?_) (fun _ _ => rfl) ?_
  · exact SsN.skip (TeN.kinds B hX LM FK NI KO HD fun Y E hY => by
      obtain ⟨g, hF, q⟩ := ask2 f hf'
      exact Ex.callV hY 2 hF (.cons (nmS hY.x 1) (.cons Ev.non.rd (.cons Ev.non.rd .nil))) q) (SsN.drop 2 (nfR3 hn) (SsN.nil rfl))
  exact SsN.skip (TeN.kinds B hX LM FK NI KO HD fun Y E hY => Ex.call hY W1 (.cons (nmS hY.x 1) (.cons Ev.non.rd (.cons Ev.non.rd (.cons Ev.non.rd .nil)))) ⟨d, .non, .non, .non, rfl, hbad, rfl⟩) (SsN.drop 1 rfl (SsN.nil rfl))
end
/-! ### k10: no tables -/
open LamX
noncomputable def threeD (s : D) : List D := [.lst [.lst [s]], .lst [.lst [.int 1, .int 0], .lst [s, .int 1]], .lst [.lst [.int 0, .int 1, .int 2], .lst [.int 1, .int 1, .int 1], .lst [.int 0, .int 0, s]]]
noncomputable def baseD : List D := [.non, .int 5, .str "12", .tup [], .tup [.tup [.int 1]], .dic [], .lst [], .lst [.lst []], .lst [.int 1], .lst [.tup [.int 1]], .lst [.lst [.int 1, .int 2]], .lst [.lst [.int 1], .lst [.int 2]], .lst [.lst [.int 1, .int 0], .lst [.int 0]],
  .lst (List.replicate 4 (.lst (List.replicate 4 (.int 0))))]
noncomputable def strange2 (far : Int) : List D := strangeD far ++ [.int 3, .int (2 + far)]
noncomputable def noTabsD (far : Int) : List D := baseD ++ (strange2 far).flatMap threeD
theorem strange2_ok {far : Int} (h : 1 ≤ far) : ∀ d ∈ strange2 far, okE d = true ∧ nf d = true ∧ elemB 3 d = false := by
  intro d hd
  unfold strange2 strangeD at hd
  simp only [List.cons_append, List.nil_append, List.mem_cons, List.not_mem_nil, or_false] at hd
  rcases hd with rfl | rfl | rfl | rfl | rfl | rfl | rfl | rfl | rfl | rfl | rfl
  all_goals refine ⟨rfl, rfl, ?_⟩
  all_goals first
    | rfl
    | (show (decide _ && decide _) = false; simp only [Bool.and_eq_false_iff, decide_eq_false_iff_not]; omega)
theorem three_ok {s : D} (h1 : okE s = true) (h2 : nf s = true) (h3 : elemB 3 s = false) : ∀ d ∈ threeD s, badT 3 d ∧ nf d = true := by
  intro d hd
  unfold threeD at hd
  simp only [List.mem_cons, List.not_mem_nil, or_false] at hd
  rcases hd with rfl | rfl | rfl
  · exact ⟨⟨by simp [tabK, rowK, h1], by simp [tabB', rowB, h3]⟩, by simp [nf, nfs, h2]⟩
  · exact ⟨⟨by simp [tabK, rowK, h1]; decide, by simp [tabB', rowB, h3]⟩, by simp [nf, nfs, h2]⟩
  · exact ⟨⟨by simp [tabK, rowK, h1]; decide, by simp [tabB', rowB, h3]⟩, by simp [nf, nfs, h2]⟩
theorem base_ok : ∀ d ∈ baseD, badT 3 d ∧ nf d = true := by
  intro d hd
  unfold baseD at hd
  simp only [List.mem_cons, List.not_mem_nil, or_false] at hd
  rcases hd with rfl | rfl | rfl | rfl | rfl | rfl | rfl | rfl | rfl | rfl | rfl | rfl | rfl | rfl
  all_goals exact ⟨⟨by decide +kernel, by decide +kernel⟩, by decide +kernel⟩
theorem noTabs_ok {far : Int} (h : 1 ≤ far) : ∀ d ∈ noTabsD far, badT 3 d ∧ nf d = true := by
  intro d hd
  rcases List.mem_append.mp hd with z | z
  · exact base_ok d z
  · obtain ⟨s, hs, z⟩ := List.mem_flatMap.mp z
    obtain ⟨h1, h2, h3⟩ := strange2_ok h s hs
    exact three_ok h1 h2 h3 d z
section
variable {M : Md}
noncomputable def gNoTabs (ds : List D) (t : T) : Prop := ∃ far : Int, ds = [.int far] ∧ t = .sh (.lst (noTabsD far))
theorem three_len : ∀ xs : List D, (xs.flatMap threeD).length = 3 * xs.length
  | [] => rfl
  | x :: xs => by
    rw [List.flatMap_cons, List.length_append, three_len xs, List.length_cons]
    show 3 + _ = _
    omega
theorem ok_no_tables (B : BI M.mg) (HS : DefOk M 1 "_law_strange" gStrange) (F : FnE M "_law_no_tables" s__law_no_tables P__law_no_tables) : DefOk M 2 "_law_no_tables" gNoTabs := by
  refine def_okE F c__law_no_tables (fun ds t ⟨far, h, _⟩ => by rw [h]; rfl) fun X ds t hX ⟨far, h, ht⟩ => ?_
  subst h ht
  refine Ss.cons (Sm.set hX 1 ((Ev.list (.cons Ev.non (.cons Ev.int (.cons Ev.str (.cons (Ev.tup .nil) (.cons (Ev.tup (.cons (Ev.tup (.cons Ev.int .nil)) .nil)) (.cons Ev.dic0 (.cons (Ev.list .nil) (.cons (Ev.list (.cons (Ev.list .nil) .nil)) (.cons (Ev.list (.cons Ev.int .nil)) (.cons (Ev.list (.cons (Ev.tup (.cons Ev.int .nil)) .nil))
    (.cons (Ev.list (.cons (Ev.list (.cons Ev.int (.cons Ev.int .nil))) .nil)) (.cons (Ev.list (.cons (Ev.list (.cons Ev.int .nil)) (.cons (Ev.list (.cons Ev.int .nil)) .nil))) (.cons (Ev.list (.cons (Ev.list (.cons Ev.int (.cons Ev.int .nil))) (.cons (Ev.list (.cons Ev.int .nil)) .nil)))
    (.cons (e_rep (n := 4) (d := .lst (List.replicate 4 (.int 0))) (Ev.ls (Ev.list (.cons (e_rep (n := 4) (d := .int 0) (Ev.ls (Ev.list (.cons Ev.int .nil))) Ev.int.rd (by decide)) .nil))) Ev.int.rd (by decide)) .nil))))))))))))))).fz' (d := .lst baseD) rfl) ?_)
  have l2 : (strange2 far).length = 11 := rfl
  refine Ss.consP (fun ρ => ρ = [some (.sh (.int far)), some (.sh (.lst (noTabsD far))), none])
    (Sm.forN (xs := strange2 far) (en := fun d => d) (fun j ρ => ρ = [some (.sh (.int far)), some (.sh (.lst (baseD ++ ((strange2 far).take j).flatMap threeD))), none]) hX 2
      (ItF.list (by
        rw [List.map_id']
        exact (Ev.cat (Ev.lsS (Ev.call hX HS (.cons (nm hX 0) .nil) ⟨far, rfl, rfl⟩)) (Ev.ls (Ev.list (.cons Ev.int (.cons (Ev.add Ev.int.rd (nmS hX 0)) .nil)))) (sz (Nat.le_of_ble_eq_true rfl))).fz' (er_shs _))) rfl (fun j ρ h => by rw [h]; rfl) (fun j s ρ hj hI => ?_) fun ρ h => ?_) fun ρ hρ => ?_
  · subst hI
    have hj' : j < (strange2 far).length := (List.getElem?_eq_some_iff.mp hj).1
    have et : (strange2 far).take (j + 1) = (strange2 far).take j ++ [s] := by
      rw [List.take_add_one, hj]
      rfl
    refine Ss.cons (Sm.set hX 1 (Ev.cat (Ev.lsS (nm hX 1)) (Ev.ls (Ev.list (.cons (Ev.list (.cons (Ev.list (.cons (nm hX 2) .nil)) .nil)) (.cons (Ev.list (.cons (Ev.list (.cons Ev.int (.cons Ev.int .nil))) (.cons (Ev.list (.cons (nm hX 2) (.cons Ev.int .nil))) .nil)))
      (.cons (Ev.list (.cons (Ev.list (.cons Ev.int (.cons Ev.int (.cons Ev.int .nil)))) (.cons (Ev.list (.cons Ev.int (.cons Ev.int (.cons Ev.int .nil)))) (.cons (Ev.list (.cons Ev.int (.cons Ev.int (.cons (nm hX 2) .nil)))) .nil)))) .nil))))) (sz ?_)) (Ss.frz 1 (d := .lst (baseD ++ ((strange2 far).take (j + 1)).flatMap threeD)) (Ss.drop 2 (Ss.nil rfl)) rfl ?_))
    · rw [List.length_append, three_len, List.length_take, l2]
      show 14 + 3 * min j 11 + 3 ≤ 1000
      omega
    · rw [er_shs, et, List.flatMap_append, List.append_assoc]
      rfl
  · show ρ = _
    rw [h, List.take_length]
    rfl
  · subst hρ
    exact Ss.cons (Sm.ret (nm hX 1) rfl)
end
/-! ### k10: tables refused -/
open LamX
noncomputable abbrev good10 : List (List Int) := [[1, 2], [0, 1]]
noncomputable def badTs10 : List D := [.non, .int 5, .str "1", .tup [], .dic [], .lst [], .lst (List.replicate 4 (dT good10)), .tup [dT good10]]
theorem badTs10_ok : ∀ d ∈ badTs10, badTs 3 d ∧ nf d = true := by
  intro d hd
  unfold badTs10 at hd
  simp only [List.mem_cons, List.not_mem_nil, or_false] at hd
  rcases hd with rfl | rfl | rfl | rfl | rfl | rfl | rfl | rfl
  all_goals exact ⟨⟨by decide +kernel, by decide +kernel⟩, by decide +kernel⟩
theorem nfR4 {far : Int} {d : D} (h : nf d = true) : nfR [some (.sh (.int far)), some (.sh (dT good10)), some (.sh d), none] = true := by
  show (true && (true && (nf d && true))) = true
  rw [h]
  rfl
section
variable {M : Md} {c : Nat → Addr} {CT : Addr} {Ts : List (Addr × Str)} {cc P : Addr}
theorem ok_tables_right (B : BI M.mg) (FK : FnE M "_law_kinds" s__law_kinds P__law_kinds) (NI : Nine M c CT) (KO : KindOf M c CT (c 1) 1) (HD : DefOk M 1 "_law_due_of" gDueOf) (HS : DefOk M 2 "_law_no_tables" gNoTabs) (F : FnC M "_law_tables_right" s__law_tables_right P__law_tables_right cc) (TB : TabB M.base M.mg cc P)
    (hT : (P, lamQ "_law_tables_right") ∈ Ts) (hu : ∀ p ∈ Ts, p.1 = P → p.2 = lamQ "_law_tables_right")
    (Y1 : DefX M 6 "undone" (gOneX (c 0) (c 1))) (Y2 : DefX M 6 "rank" (gOneX (c 0) (c 1))) (Y3 : DefX M 6 "worth" (gOneX (c 0) (c 1))) (Y4 : DefX M 6 "least_rule" (gOneX (c 0) (c 1))) (Y5 : DefX M 6 "own_rule" (gOneX (c 0) (c 1))) (Y6 : DefX M 6 "spanning" (gOneX (c 0) (c 1))) (Y7 : DefX M 6 "comes_round" (gOneX (c 0) (c 1))) (Y8 : DefX M 6 "back" (gOneX (c 0) (c 1)))
    (Y10 : DefX M 6 "number_of" (gOneX (c 0) (c 1))) (Y11 : DefX M 5 "made" (gTsX (c 0) (c 1) (c 6) (c 7)))
    (Z1 : DefX M 6 "moved" (gOneM (c 0) (c 1))) (Z2 : DefX M 7 "behind" (gTwoX (c 0) (c 1) (c 6))) (Z3 : DefX M 7 "together" (gTwoX (c 0) (c 1) (c 6))) (Z4 : DefX M 6 "turned" (gOne3 (c 0) (c 1))) (Z5 : DefX M 6 "at_rule" (gOne3 (c 0) (c 1))) (Z6 : DefX M 7 "alike" (gTwoX (c 0) (c 1) (c 6))) (Z8 : DefX M 5 "word" (gWordX (c 0) (c 1) (c 6) (c 7))) : DefN M Ts 10 "_law_tables_right" gFarB := by
  refine defN F c__law_tables_right TB hT hu (fun ds b ⟨far, h, _⟩ => by rw [h]; exact ⟨rfl, rfl⟩) fun X ds b hX LM ⟨far, h, hf, hb⟩ => ?_
  subst h hb
  obtain ⟨f1, m1, a1⟩ := Y1.ask
  obtain ⟨f2, m2, a2⟩ := Y2.ask
  obtain ⟨f3, m3, a3⟩ := Y3.ask
  obtain ⟨f4, m4, a4⟩ := Y4.ask
  obtain ⟨f5, m5, a5⟩ := Y5.ask
  obtain ⟨f6, m6, a6⟩ := Y6.ask
  obtain ⟨f7, m7, a7⟩ := Y7.ask
  obtain ⟨f8, m8, a8⟩ := Y8.ask
  obtain ⟨f10, m10, a10⟩ := Y10.ask
  obtain ⟨g2, n2, b2⟩ := Z2.ask
  obtain ⟨g3, n3, b3⟩ := Z3.ask
  obtain ⟨g4, n4, b4⟩ := Z4.ask
  obtain ⟨g5, n5, b5⟩ := Z5.ask
  obtain ⟨g6, n6, b6⟩ := Z6.ask
  have r3 : Round 3 := .inr (.inl rfl)
  have iT : isTable 3 good10 = true := by decide +kernel
  have G : GsOk 3 2 [good10] := ⟨r3, by decide, by decide, (fun h => nomatch h), by decide, fun t ht => by rw [List.mem_singleton.mp ht]; exact tab_mk (by decide), fun t ht => by rw [List.mem_singleton.mp ht]; decide +kernel⟩
  have hz : (wordsL 3 2 [good10]).length ≤ 200 := by decide +kernel
  have ok := noTabs_ok hf
  refine SsN.sm (Sm.set hX 1 (e_tabI (t := good10) (.cons Ev.listI (.cons Ev.listI .nil))) ⟨rfl, ?_⟩)
  refine SsN.for (xs := noTabsD far) (en := fun d => d) hX 2 (ItN.list (by
      rw [List.map_id']
      exact Ev.call hX HS (.cons (nm hX 0) .nil) ⟨far, rfl, rfl⟩) (by rw [List.map_id']; exact nfs_all fun d hd => (ok d hd).2)) (fun d hd => ?_) (fun d hd => (ok d hd).2) ?_
  · obtain ⟨hbad, hn⟩ := ok d hd
    have one : gOneX (c 0) (c 1) [.int 3, d] (c 1) := ⟨.int 3, d, rfl, .inr ⟨3, rfl, r3, hbad, rfl⟩⟩
    have ask1 : ∀ f ∈ [f1, f2, f3, f4, f5, f6, f7, f8, f10], AskX M f [.int 3, d] (c 1) := by
      intro f hf
      simp only [List.mem_cons, List.not_mem_nil, or_false] at hf
      rcases hf with rfl | rfl | rfl | rfl | rfl | rfl | rfl | rfl | rfl
      · exact a1 _ _ one
      · exact a2 _ _ one
      · exact a3 _ _ one
      · exact a4 _ _ one
      · exact a5 _ _ one
      · exact a6 _ _ one
      · exact a7 _ _ one
      · exact a8 _ _ one
      · exact a10 _ _ one
    have ask2 : ∀ f ∈ [g2, g3, g4, g5, g6], AskX M f [.int 3, d, .non] (c 1) := by
      intro f hf
      simp only [List.mem_cons, List.not_mem_nil, or_false] at hf
      rcases hf with rfl | rfl | rfl | rfl | rfl
      · exact b2 _ _ ⟨_, _, _, rfl, .inl one⟩
      · exact b3 _ _ ⟨_, _, _, rfl, .inl one⟩
      · exact b4 _ _ ⟨_, _, _, rfl, one⟩
      · exact b5 _ _ ⟨_, _, _, rfl, one⟩
      · exact b6 _ _ ⟨_, _, _, rfl, .inl one⟩
    have two : gTwoX (c 0) (c 1) (c 6) [.int 3, dT good10, d] (c 1) := ⟨_, _, _, rfl, .inr ⟨3, good10, rfl, rfl, r3, iT, .inl ⟨hbad, rfl⟩⟩⟩
    have ask3 : ∀ f ∈ [g2, g3, g6], AskX M f [.int 3, dT good10, d] (c 1) := by
      intro f hf
      simp only [List.mem_cons, List.not_mem_nil, or_false] at hf
      rcases hf with rfl | rfl | rfl
      · exact b2 _ _ two
      · exact b3 _ _ two
      · exact b6 _ _ two
    have kg : tabK (dT good10) = true := by decide +kernel
    have bd1 : badTs 3 (.lst [dT good10, d]) := ⟨by
      show ((tabK (dT good10) && (tabK d && true)) && true) = true
      rw [kg, hbad.1]
      rfl, by
      simp [tsB, hbad.2]⟩
    have bd2 : badTs 3 (.lst [d]) := ⟨by
      show ((tabK d && true) && true) = true
      rw [hbad.1]
      rfl, by
      simp [tsB, hbad.2]⟩
    refine SsN.for (xs := [f1, f2, f3, f4, f5, f6, f7, f8, f10]) (en := D.at) hX 3 (ItN.tup (Ev.tup (.cons (Ev.fn hX m1) (.cons (Ev.fn hX m2) (.cons (Ev.fn hX m3) (.cons (Ev.fn hX m4) (.cons (Ev.fn hX m5) (.cons (Ev.fn hX m6) (.cons (Ev.fn hX m7) (.cons (Ev.fn hX m8) (.cons (Ev.fn hX m10) .nil)))))))))) rfl) (fun f hf' => ?_) (fun _ _ => rfl) ?_
    · exact SsN.skip (TeN.kinds B hX LM FK NI KO HD fun Y E hY => by
        obtain ⟨g, hF, q⟩ := ask1 f hf'
        exact Ex.callV hY 3 hF (.cons Ev.int.rd (.cons (nmS hY.x 2) .nil)) q) (SsN.drop 3 (nfR4 hn) (SsN.nil rfl))
    refine SsN.for (xs := [g2, g3, g4, g5, g6]) (en := D.at) hX 3 (ItN.tup (Ev.tup (.cons (Ev.fn hX n2) (.cons (Ev.fn hX n3) (.cons (Ev.fn hX n4) (.cons (Ev.fn hX n5) (.cons (Ev.fn hX n6) .nil)))))) rfl) (fun f hf' => ?_) (fun _ _ => rfl) ?_
    · exact SsN.skip (TeN.kinds B hX LM FK NI KO HD fun Y E hY => by
        obtain ⟨g, hF, q⟩ := ask2 f hf'
        exact Ex.callV hY 3 hF (.cons Ev.int.rd (.cons (nmS hY.x 2) (.cons Ev.non.rd .nil))) q) (SsN.drop 3 (nfR4 hn) (SsN.nil rfl))
    refine SsN.skip (TeN.kinds B hX LM FK NI KO HD fun Y E hY => Ex.call hY Z1 (.cons Ev.int.rd (.cons Ev.non.rd (.cons (nmS hY.x 2) .nil))) ⟨_, _, _, rfl, one⟩) ?_
    refine SsN.for (xs := [g2, g3, g6]) (en := D.at) hX 3 (ItN.tup (Ev.tup (.cons (Ev.fn hX n2) (.cons (Ev.fn hX n3) (.cons (Ev.fn hX n6) .nil)))) rfl) (fun f hf' => ?_) (fun _ _ => rfl) ?_
    · exact SsN.skip (TeN.kinds B hX LM FK NI KO HD fun Y E hY => by
        obtain ⟨g, hF, q⟩ := ask3 f hf'
        exact Ex.callV hY 3 hF (.cons Ev.int.rd (.cons (nmS hY.x 1) (.cons (nmS hY.x 2) .nil))) q) (SsN.drop 3 (nfR4 hn) (SsN.nil rfl))
    refine SsN.skip (TeN.kinds B hX LM FK NI KO HD fun Y E hY => Ex.call hY Y11 (.cons Ev.int.rd (.cons (Ev.list (.cons (nm hY.x 1) (.cons (nm hY.x 2) .nil))).rd .nil)) ⟨_, _, rfl, .inr ⟨3, rfl, r3, .inl ⟨bd1, rfl⟩⟩⟩) ?_
    refine SsN.skip (TeN.kinds B hX LM FK NI KO HD fun Y E hY => Ex.call hY Z8 (.cons Ev.int.rd (.cons (Ev.list (.cons (nm hY.x 2) .nil)).rd (.cons Ev.non.rd .nil))) ⟨_, _, _, rfl, .inl ⟨_, _, rfl, .inr ⟨3, rfl, r3, .inl ⟨bd2, rfl⟩⟩⟩⟩) ?_
    exact SsN.skip (TeN.kinds B hX LM FK NI KO HD fun Y E hY => Ex.call hY Z8 (.cons Ev.int.rd (.cons (Ev.list (.cons (nm hY.x 1) .nil)).rd (.cons (nmS hY.x 2) .nil))) ⟨_, _, _, rfl, .inr ⟨3, 2, [good10], rfl, rfl, G, hz, .inl ⟨hbad, rfl⟩⟩⟩) (SsN.drop 2 rfl (SsN.nil rfl))
  · refine SsN.for (xs := badTs10) (en := fun d => d) hX 2 (ItN.tup (by
        rw [List.map_id']
        exact Ev.tup (.cons Ev.non (.cons Ev.int (.cons Ev.str (.cons (Ev.tup .nil) (.cons Ev.dic0 (.cons (Ev.list .nil) (.cons (e_rep (n := 4) (d := dT good10) (Ev.ls (Ev.list (.cons (nm hX 1) .nil))) Ev.int.rd (by decide)) (.cons (Ev.tup (.cons (nm hX 1) .nil)) .nil))))))))) (by rw [List.map_id']; exact nfs_all fun d hd => (badTs10_ok d hd).2)) (fun d hd => ?_) (fun d hd => (badTs10_ok d hd).2) (SsN.sm (Sm.ret Ev.bl rfl))
    obtain ⟨hbad, hn⟩ := badTs10_ok d hd
    have ts : gTsX (c 0) (c 1) (c 6) (c 7) [.int 3, d] (c 1) := ⟨_, _, rfl, .inr ⟨3, rfl, r3, .inl ⟨hbad, rfl⟩⟩⟩
    refine SsN.skip (TeN.kinds B hX LM FK NI KO HD fun Y E hY => Ex.call hY Y11 (.cons Ev.int.rd (.cons (nmS hY.x 2) .nil)) ts) ?_
    exact SsN.skip (TeN.kinds B hX LM FK NI KO HD fun Y E hY => Ex.call hY Z8 (.cons Ev.int.rd (.cons (nmS hY.x 2) (.cons Ev.non.rd .nil))) ⟨_, _, _, rfl, .inl ts⟩) (SsN.drop 2 rfl (SsN.nil rfl))
end
/-! ### k10: the law -/
open LamX
theorem nf_dR (ns : List Int) : nf (dR ns) = true := nfs_all fun d hd => by
  obtain ⟨i, _, rfl⟩ := List.mem_map.mp hd
  rfl
theorem nfL {ns : List Int} {r : Rho} (h : nfR r = true) : nfR (some (.sh (dR ns)) :: r) = true := by
  show (nf (dR ns) && nfR r) = true
  rw [nf_dR, h]
  rfl
noncomputable abbrev one10 : List (List Int) := [[1]]
noncomputable abbrev other10 : List (List Int) := [[1, 0], [0, 1]]
section
variable {M : Md} {c : Nat → Addr} {CT : Addr} {Ts : List (Addr × Str)} {cc P : Addr} {f : Addr} {oc kV doc pm ct : Value} {od an : Option Addr} {sl : Array (Option Value)}
theorem body_law10 (B : BI M.mg) (FK : FnE M "_law_kinds" s__law_kinds P__law_kinds) (NI : Nine M c CT) (KO : KindOf M c CT (c 6) 6) (HD : DefOk M 1 "_law_due_of" gDueOf) (C1 : DefOk M 1 "_law_cell_at" gCell) (C2 : DefOk M 2 "_law_value" gValue) (R1 : DefN M Ts 10 "_law_rounds_right" gFarB) (R2 : DefN M Ts 10 "_law_tables_right" gFarB)
    (lk : M.K.lookup f = some ⟨oc, od, .func (PySem.W.fnOf "law" "law" (defArgs s_law) (defBody s_law) (defScope s_law) .none kV doc pm an (.ref cc) ct), sl⟩) (hc : PySem.W.codeIn M.K (.ref cc) "law" = true) (TB : TabB M.base M.mg cc P) (hT : (P, lamQ "law") ∈ Ts) (hu : ∀ p ∈ Ts, p.1 = P → p.2 = lamQ "law")
    (Z2 : DefX M 7 "behind" (gTwoX (c 0) (c 1) (c 6))) (Z3 : DefX M 7 "together" (gTwoX (c 0) (c 1) (c 6))) (Z6 : DefX M 7 "alike" (gTwoX (c 0) (c 1) (c 6))) (Y11 : DefX M 5 "made" (gTsX (c 0) (c 1) (c 6) (c 7))) (Z8 : DefX M 5 "word" (gWordX (c 0) (c 1) (c 6) (c 7)))
    (D1 : DefOk M 6 "worth" gWorthD) (D2 : DefOk M 6 "rank" gRankD) : FnG M.P M.w M.K M.mg M.base CX0 11 f (PySem.W.fnOf "law" "law" (defArgs s_law) (defBody s_law) (defScope s_law) .none kV doc pm an (.ref cc) ct) ["_law_script"] (spLT 63 M.K Ts) := by
  refine law_fnT (m := 63) lk hc c_law TB hT hu rfl rfl (by decide +kernel) (by decide +kernel) (by decide) fun X ns hl hX LM => ?_
  obtain ⟨g2, n2, b2⟩ := Z2.ask
  obtain ⟨g3, n3, b3⟩ := Z3.ask
  obtain ⟨g6, n6, b6⟩ := Z6.ask
  have r5 : Round 5 := .inr (.inr (.inl rfl))
  have i1 : isTable 5 one10 = true := by decide +kernel
  have i2 : isTable 5 other10 = true := by decide +kernel
  have G : GsOk 5 1 [one10] := ⟨r5, by decide, by decide, (fun h => nomatch h), by decide, fun t ht => by rw [List.mem_singleton.mp ht]; exact tab_mk (by decide), fun t ht => by rw [List.mem_singleton.mp ht]; decide +kernel⟩
  have hz : (wordsL 5 1 [one10]).length ≤ 200 := by decide +kernel
  have two : gTwoX (c 0) (c 1) (c 6) [.int 5, dT one10, dT other10] (c 6) := ⟨_, _, _, rfl, .inr ⟨5, one10, rfl, rfl, r5, i1, .inr ⟨other10, rfl, i2, by decide, rfl⟩⟩⟩
  have ask3 : ∀ f ∈ [g2, g3, g6], AskX M f [.int 5, dT one10, dT other10] (c 6) := by
    intro f hf
    simp only [List.mem_cons, List.not_mem_nil, or_false] at hf
    rcases hf with rfl | rfl | rfl
    · exact b2 _ _ two
    · exact b3 _ _ two
    · exact b6 _ _ two
  refine SsN.for (xs := [0, 3]) (en := fun (i : Nat) => D.int (i : Int)) hX 1 (ItN.tup (Ev.tup (.cons Ev.int (.cons Ev.int .nil))) rfl) (fun b hb => ?_) (fun _ _ => rfl) ?_
  · refine SsN.sm (Sm.set hX 2 (Ev.add Ev.int.rd (Ev.rdI (Ev.mod (Ev.rdI (Ev.call hX C2 (.cons (Ev.call hX C1 (.cons (nm hX 0) (.cons (nm hX 1) .nil)) ⟨ns, b, rfl, rfl⟩) (.cons Ev.int .nil)) ⟨_, 7, rfl, by decide, rfl⟩)) (pw10 (m := 10 ^ 20) (by decide)).rd (by decide)))) ⟨nfL rfl, ?_⟩)
    have h1 : 1 ≤ 1 + valueL (ns.getD b 0) 7 % 10 ^ 20 := by
      have := Int.emod_nonneg (valueL (ns.getD b 0) 7) (show (10 : Int) ^ 20 ≠ 0 by decide)
      omega
    refine SsN.skip (TeN.or2 (TeN.not (TeN.call hX R1 (.cons (nmS hX 2) .nil) ⟨_, rfl, h1, rfl⟩)) (TeN.not (TeN.call hX R2 (.cons (nmS hX 2) .nil) ⟨_, rfl, h1, rfl⟩))) (SsN.drop 1 (nfL rfl) (SsN.drop 2 (nfL rfl) (SsN.nil rfl)))
  refine SsN.sm (Sm.sto (d := .tup [dT one10, dT other10]) (Ev.tup (.cons (e_tabI (t := one10) (.cons Ev.listI .nil)) (.cons (e_tabI (t := other10) (.cons Ev.listI (.cons Ev.listI .nil))) .nil))) (Gs.tup2 hX (Gs.name hX 3) (Gs.name hX 4)) ⟨nfL rfl, ?_⟩ (hw := by rw [swapped_eq, hX.s]; rfl))
  refine SsN.for (xs := [g2, g3, g6]) (en := D.at) hX 5 (ItN.tup (Ev.tup (.cons (Ev.fn hX n2) (.cons (Ev.fn hX n3) (.cons (Ev.fn hX n6) .nil)))) rfl) (fun f hf' => ?_) (fun _ _ => rfl) ?_
  · exact SsN.skip (TeN.kinds B hX LM FK NI KO HD fun Y E hY => by
      obtain ⟨g, hF, q⟩ := ask3 f hf'
      exact Ex.callV hY 5 hF (.cons Ev.int.rd (.cons (nmS hY.x 3) (.cons (nmS hY.x 4) .nil))) q) (SsN.drop 5 (nfL rfl) (SsN.nil rfl))
  refine SsN.skip (TeN.kinds B hX LM FK NI KO HD fun Y E hY => Ex.call hY Y11 (.cons Ev.int.rd (.cons (Ev.list (.cons (nm hY.x 4) (.cons (nm hY.x 3) .nil))).rd .nil)) ⟨_, _, rfl, .inr ⟨5, rfl, r5, .inr ⟨[other10, one10], rfl, by decide, fun t ht => ?_, .inl ⟨⟨one10, by simp, by decide⟩, rfl⟩⟩⟩⟩) ?_
  · simp only [List.mem_cons, List.not_mem_nil, or_false] at ht
    rcases ht with rfl | rfl <;> assumption
  refine SsN.skip (TeN.kinds B hX LM FK NI KO HD fun Y E hY => Ex.call hY Z8 (.cons Ev.int.rd (.cons (Ev.list (.cons (nm hY.x 3) .nil)).rd (.cons (nmS hY.x 4) .nil))) ⟨_, _, _, rfl, .inr ⟨5, 1, [one10], rfl, rfl, G, hz, .inr ⟨other10, rfl, i2, by decide, rfl⟩⟩⟩) ?_
  have t1 : Tn 7 1 [[6]] := ⟨.inr (.inr (.inr rfl)), by decide, by decide, tab_mk (by decide)⟩
  have t2 : Tn 2 3 [[1, 0, 0], [0, 1, 0], [0, 0, 1]] := ⟨.inl rfl, by decide, by decide, tab_mk (by decide)⟩
  refine SsN.sm (Sm.ret (Ev.and (Ev.cmp CmpD.eqI (Ev.rd (Ev.call hX D1 (.cons Ev.int (.cons (e_tabI (t := [[6]]) (.cons Ev.listI .nil)) .nil)) ⟨7, 1, [[6]], rfl, t1, rfl⟩)) Ev.int.rd) fun _ => Ev.and1 (Ev.cmp CmpD.eqI (Ev.rd (Ev.call hX D2 (.cons Ev.int (.cons (e_tabI (t := [[1, 0, 0], [0, 1, 0], [0, 0, 1]]) (.cons Ev.listI (.cons Ev.listI (.cons Ev.listI .nil)))) .nil)) ⟨2, 3, _, rfl, t2, rfl⟩)) Ev.int.rd)) ?_)
  rw [show decide (wI (1 - 1) [[6]] % 7 = 6) = true from by decide +kernel, show decide (((rankL 2 3 [[1, 0, 0], [0, 1, 0], [0, 0, 1]] : Nat) : Int) = 3) = true from by decide +kernel]
  rfl
end
/-! ### what the top has written -/
theorem FnC.mk {M : Md} {h : Heap} {x : Str} {st : Stmt} {ps : List Str} {f cc : Addr} {od an : Option Addr} {sl : Array (Option Value)} {oc kV dc pm ct : Value} (X : M.K.In h) (G : h.Ns mainGlobals M.mg) (a : PySem.W.nsIn M.K mainGlobals x = some (some (.ref f)))
    (l : M.K.lookup f = some ⟨oc, od, .func (PySem.W.fnOf x x (defArgs st) (defBody st) (defScope st) .none kV dc pm an (.ref cc) ct), sl⟩) (c : PySem.W.codeIn M.K (.ref cc) x = true) (k : PySem.W.keepIn M.K (.ref f) = true)
    (b : ∀ (kV doc pm : Value) (an : Option Addr) (cdv ct : Value) (us : List Value), us.length = ps.length → bindArgs (PySem.W.fnOf x x (defArgs st) (defBody st) (defScope st) .none kV doc pm an cdv ct) ⟨us, []⟩ = pure (ps.zip us)) : FnC M x st ps cc :=
  ⟨f, oc, kV, dc, pm, ct, od, an, sl, l, c, PySem.W.mg_of X G a, k, (fun_mk l c k).binds b⟩
theorem tabIn_mk {K : PySem.W.Frag} {x : Str} {f c P : Addr} {oc oc2 : Value} {od od2 : Option Addr} {sl sl2 : Array (Option Value)} {fd : FuncData} {vs : Array Value} (a : PySem.W.nsIn K mainGlobals x = some (some (.ref f))) (l : K.lookup f = some ⟨oc, od, .func fd, sl⟩) (hc : fd.code = .ref c) (lc : K.lookup c = some ⟨oc2, od2, .fields vs, sl2⟩) (vp : (vs[11]? : Option Value) = some (.ref P)) : PySem.W.tabIn K x = some (c, P) := by
  unfold PySem.W.tabIn
  simp only [a, l, hc, lc, vp]
theorem kit_bt {K : PySem.W.Frag} {C : Addr} {y : String} {b : Bool} (m : PySem.W.kitMeta y = true) (s : PySem.W.subIn K (.ref C) (.type y) = some b) : PySem.W.kitOne K (.ref C) (.type y) = some b := by
  unfold PySem.W.kitOne
  rw [if_neg (fun z => by cases beq_iff_eq.mp z)]
  show (if PySem.W.kitMeta y = true then PySem.W.subIn K (.ref C) (.type y) else none) = some b
  rw [if_pos m]
  exact s
theorem FnE.mk {M : Md} {h : Heap} {x : Str} {st : Stmt} {ps : List Str} {f : Addr} {od an : Option Addr} {sl : Array (Option Value)} {oc kV dc pm cd ct : Value} (X : M.K.In h) (G : h.Ns mainGlobals M.mg) (a : PySem.W.nsIn M.K mainGlobals x = some (some (.ref f)))
    (l : M.K.lookup f = some ⟨oc, od, .func (PySem.W.fnOf x x (defArgs st) (defBody st) (defScope st) .none kV dc pm an cd ct), sl⟩) (c : PySem.W.codeIn M.K cd x = true) (k : PySem.W.keepIn M.K (.ref f) = true)
    (b : ∀ (kV doc pm : Value) (an : Option Addr) (cdv ct : Value) (us : List Value), us.length = ps.length → bindArgs (PySem.W.fnOf x x (defArgs st) (defBody st) (defScope st) .none kV doc pm an cdv ct) ⟨us, []⟩ = pure (ps.zip us)) : FnE M x st ps :=
  ⟨f, _, fun_mk l c k, PySem.W.mg_of X G a, (fun_mk l c k).binds b⟩
set_option maxHeartbeats 0 in
theorem all_mk {w : World} {K : PySem.W.Frag} {h : Heap} {mg : Str → Option Value} {fa : Addr} (P : Program) (X : K.In h) (G : h.Ns mainGlobals mg) (hfa : mg "law" = some (.ref fa)) {tsL : List Addr} (hTab : ∀ P ∈ tsL, h.get? P = some (PySem.W.tabObj #[]))
    {cc_law_rounds_right P_law_rounds_right : Addr} {ot_law_rounds_right : Value} {dt_law_rounds_right : Option Addr} {st_law_rounds_right : Array (Option Value)} {vt_law_rounds_right : Array Value}
    {cc_law_tables_right P_law_tables_right : Addr} {ot_law_tables_right : Value} {dt_law_tables_right : Option Addr} {st_law_tables_right : Array (Option Value)} {vt_law_tables_right : Array Value}
    {cclaw Plaw : Addr} {otlaw : Value} {dtlaw : Option Addr} {stlaw : Array (Option Value)} {vtlaw : Array Value}
    {f0 f1 f2 f3 f4 f5 f6 f7 f8 f9 f10 f11 f12 f13 f14 f15 f16 f17 f18 f19 f20 f21 f22 f23 f24 f25 f26 f27 f28 f29 f30 f31 f32 f33 f34 f35 f36 f37 f38 f39 f40 f41 f42 f43 f44 f45 f46 f47 f48 : Addr} {od0 od1 od2 od3 od4 od5 od6 od7 od8 od9 od10 od11 od12 od13 od14 od15 od16 od17 od18 od19 od20 od21 od22 od23 od24 od25 od26 od27 od28 od29 od30 od31 od32 od33 od34 od35 od36 od37 od38 od39 od40 od41 od42 od43 od44 od45 od46 od47 od48 an0 an1 an2 an3 an4 an5 an6 an7 an8 an9 an10 an11 an12 an13 an14 an15 an16 an17 an18 an19 an20 an21 an22 an23 an24 an25 an26 an27 an28 an29 an30 an31 an32 an33 an34 an35 an36 an37 an38 an39 an40 an41 an42 an43 an44 an45 an46 an47 an48 : Option Addr} {sl0 sl1 sl2 sl3 sl4 sl5 sl6 sl7 sl8 sl9 sl10 sl11 sl12 sl13 sl14 sl15 sl16 sl17 sl18 sl19 sl20 sl21 sl22 sl23 sl24 sl25 sl26 sl27 sl28 sl29 sl30 sl31 sl32 sl33 sl34 sl35 sl36 sl37 sl38 sl39 sl40 sl41 sl42 sl43 sl44 sl45 sl46 sl47 sl48 : Array (Option Value)}
    {oc0 oc1 oc2 oc3 oc4 oc5 oc6 oc7 oc8 oc9 oc10 oc11 oc12 oc13 oc14 oc15 oc16 oc17 oc18 oc19 oc20 oc21 oc22 oc23 oc24 oc25 oc26 oc27 oc28 oc29 oc30 oc31 oc32 oc33 oc34 oc35 oc36 oc37 oc38 oc39 oc40 oc41 oc42 oc43 oc44 oc45 oc46 oc47 oc48 kV0 kV1 kV2 kV3 kV4 kV5 kV6 kV7 kV8 kV9 kV10 kV11 kV12 kV13 kV14 kV15 kV16 kV17 kV18 kV19 kV20 kV21 kV22 kV23 kV24 kV25 kV26 kV27 kV28 kV29 kV30 kV31 kV32 kV33 kV34 kV35 kV36 kV37 kV38 kV39 kV40 kV41 kV42 kV43 kV44 kV45 kV46 kV47 kV48 dc0 dc1 dc2 dc3 dc4 dc5 dc6 dc7 dc8 dc9 dc10 dc11 dc12 dc13 dc14 dc15 dc16 dc17 dc18 dc19 dc20 dc21 dc22 dc23 dc24 dc25 dc26 dc27 dc28 dc29 dc30 dc31 dc32 dc33 dc34 dc35 dc36 dc37 dc38 dc39 dc40 dc41 dc42 dc43 dc44 dc45 dc46 dc47 dc48 pm0 pm1 pm2 pm3 pm4 pm5 pm6 pm7 pm8 pm9 pm10 pm11 pm12 pm13 pm14 pm15 pm16 pm17 pm18 pm19 pm20 pm21 pm22 pm23 pm24 pm25 pm26 pm27 pm28 pm29 pm30 pm31 pm32 pm33 pm34 pm35 pm36 pm37 pm38 pm39 pm40 pm41 pm42 pm43 pm44 pm45 pm46 pm47 pm48 cd0 cd1 cd2 cd3 cd4 cd5 cd6 cd7 cd8 cd9 cd10 cd11 cd12 cd13 cd14 cd15 cd16 cd17 cd18 cd19 cd20 cd21 cd22 cd23 cd24 cd25 cd26 cd27 cd28 cd29 cd30 cd31 cd32 cd33 cd34 cd35 cd36 cd37 cd38 cd39 cd40 cd41 cd42 cd43 cd44 cd46 ct0 ct1 ct2 ct3 ct4 ct5 ct6 ct7 ct8 ct9 ct10 ct11 ct12 ct13 ct14 ct15 ct16 ct17 ct18 ct19 ct20 ct21 ct22 ct23 ct24 ct25 ct26 ct27 ct28 ct29 ct30 ct31 ct32 ct33 ct34 ct35 ct36 ct37 ct38 ct39 ct40 ct41 ct42 ct43 ct44 ct45 ct46 ct47 ct48 : Value}
    (a0 : PySem.W.nsIn K mainGlobals "is_whole" = some (some (.ref f0))) (l0 : K.lookup f0 = some ⟨oc0, od0, .func (PySem.W.fnOf "is_whole" "is_whole" (defArgs s_is_whole) (defBody s_is_whole) (defScope s_is_whole) .none kV0 dc0 pm0 an0 cd0 ct0), sl0⟩) (c0 : PySem.W.codeIn K cd0 "is_whole" = true) (k0 : PySem.W.keepIn K (.ref f0) = true)
    (a1 : PySem.W.nsIn K mainGlobals "check_round" = some (some (.ref f1))) (l1 : K.lookup f1 = some ⟨oc1, od1, .func (PySem.W.fnOf "check_round" "check_round" (defArgs s_check_round) (defBody s_check_round) (defScope s_check_round) .none kV1 dc1 pm1 an1 cd1 ct1), sl1⟩) (c1 : PySem.W.codeIn K cd1 "check_round" = true) (k1 : PySem.W.keepIn K (.ref f1) = true)
    (a2 : PySem.W.nsIn K mainGlobals "is_row" = some (some (.ref f2))) (l2 : K.lookup f2 = some ⟨oc2, od2, .func (PySem.W.fnOf "is_row" "is_row" (defArgs s_is_row) (defBody s_is_row) (defScope s_is_row) .none kV2 dc2 pm2 an2 cd2 ct2), sl2⟩) (c2 : PySem.W.codeIn K cd2 "is_row" = true) (k2 : PySem.W.keepIn K (.ref f2) = true)
    (a3 : PySem.W.nsIn K mainGlobals "is_table" = some (some (.ref f3))) (l3 : K.lookup f3 = some ⟨oc3, od3, .func (PySem.W.fnOf "is_table" "is_table" (defArgs s_is_table) (defBody s_is_table) (defScope s_is_table) .none kV3 dc3 pm3 an3 cd3 ct3), sl3⟩) (c3 : PySem.W.codeIn K cd3 "is_table" = true) (k3 : PySem.W.keepIn K (.ref f3) = true)
    (a4 : PySem.W.nsIn K mainGlobals "check_table" = some (some (.ref f4))) (l4 : K.lookup f4 = some ⟨oc4, od4, .func (PySem.W.fnOf "check_table" "check_table" (defArgs s_check_table) (defBody s_check_table) (defScope s_check_table) .none kV4 dc4 pm4 an4 cd4 ct4), sl4⟩) (c4 : PySem.W.codeIn K cd4 "check_table" = true) (k4 : PySem.W.keepIn K (.ref f4) = true)
    (a5 : PySem.W.nsIn K mainGlobals "check_one" = some (some (.ref f5))) (l5 : K.lookup f5 = some ⟨oc5, od5, .func (PySem.W.fnOf "check_one" "check_one" (defArgs s_check_one) (defBody s_check_one) (defScope s_check_one) .none kV5 dc5 pm5 an5 cd5 ct5), sl5⟩) (c5 : PySem.W.codeIn K cd5 "check_one" = true) (k5 : PySem.W.keepIn K (.ref f5) = true)
    (a6 : PySem.W.nsIn K mainGlobals "check_two" = some (some (.ref f6))) (l6 : K.lookup f6 = some ⟨oc6, od6, .func (PySem.W.fnOf "check_two" "check_two" (defArgs s_check_two) (defBody s_check_two) (defScope s_check_two) .none kV6 dc6 pm6 an6 cd6 ct6), sl6⟩) (c6 : PySem.W.codeIn K cd6 "check_two" = true) (k6 : PySem.W.keepIn K (.ref f6) = true)
    (a7 : PySem.W.nsIn K mainGlobals "unit_of" = some (some (.ref f7))) (l7 : K.lookup f7 = some ⟨oc7, od7, .func (PySem.W.fnOf "unit_of" "unit_of" (defArgs s_unit_of) (defBody s_unit_of) (defScope s_unit_of) .none kV7 dc7 pm7 an7 cd7 ct7), sl7⟩) (c7 : PySem.W.codeIn K cd7 "unit_of" = true) (k7 : PySem.W.keepIn K (.ref f7) = true)
    (a8 : PySem.W.nsIn K mainGlobals "moved_of" = some (some (.ref f8))) (l8 : K.lookup f8 = some ⟨oc8, od8, .func (PySem.W.fnOf "moved_of" "moved_of" (defArgs s_moved_of) (defBody s_moved_of) (defScope s_moved_of) .none kV8 dc8 pm8 an8 cd8 ct8), sl8⟩) (c8 : PySem.W.codeIn K cd8 "moved_of" = true) (k8 : PySem.W.keepIn K (.ref f8) = true)
    (a9 : PySem.W.nsIn K mainGlobals "moved" = some (some (.ref f9))) (l9 : K.lookup f9 = some ⟨oc9, od9, .func (PySem.W.fnOf "moved" "moved" (defArgs s_moved) (defBody s_moved) (defScope s_moved) .none kV9 dc9 pm9 an9 cd9 ct9), sl9⟩) (c9 : PySem.W.codeIn K cd9 "moved" = true) (k9 : PySem.W.keepIn K (.ref f9) = true)
    (a10 : PySem.W.nsIn K mainGlobals "behind_of" = some (some (.ref f10))) (l10 : K.lookup f10 = some ⟨oc10, od10, .func (PySem.W.fnOf "behind_of" "behind_of" (defArgs s_behind_of) (defBody s_behind_of) (defScope s_behind_of) .none kV10 dc10 pm10 an10 cd10 ct10), sl10⟩) (c10 : PySem.W.codeIn K cd10 "behind_of" = true) (k10 : PySem.W.keepIn K (.ref f10) = true)
    (a11 : PySem.W.nsIn K mainGlobals "behind" = some (some (.ref f11))) (l11 : K.lookup f11 = some ⟨oc11, od11, .func (PySem.W.fnOf "behind" "behind" (defArgs s_behind) (defBody s_behind) (defScope s_behind) .none kV11 dc11 pm11 an11 cd11 ct11), sl11⟩) (c11 : PySem.W.codeIn K cd11 "behind" = true) (k11 : PySem.W.keepIn K (.ref f11) = true)
    (a12 : PySem.W.nsIn K mainGlobals "together" = some (some (.ref f12))) (l12 : K.lookup f12 = some ⟨oc12, od12, .func (PySem.W.fnOf "together" "together" (defArgs s_together) (defBody s_together) (defScope s_together) .none kV12 dc12 pm12 an12 cd12 ct12), sl12⟩) (c12 : PySem.W.codeIn K cd12 "together" = true) (k12 : PySem.W.keepIn K (.ref f12) = true)
    (a13 : PySem.W.nsIn K mainGlobals "turned" = some (some (.ref f13))) (l13 : K.lookup f13 = some ⟨oc13, od13, .func (PySem.W.fnOf "turned" "turned" (defArgs s_turned) (defBody s_turned) (defScope s_turned) .none kV13 dc13 pm13 an13 cd13 ct13), sl13⟩) (c13 : PySem.W.codeIn K cd13 "turned" = true) (k13 : PySem.W.keepIn K (.ref f13) = true)
    (a14 : PySem.W.nsIn K mainGlobals "back_of" = some (some (.ref f14))) (l14 : K.lookup f14 = some ⟨oc14, od14, .func (PySem.W.fnOf "back_of" "back_of" (defArgs s_back_of) (defBody s_back_of) (defScope s_back_of) .none kV14 dc14 pm14 an14 cd14 ct14), sl14⟩) (c14 : PySem.W.codeIn K cd14 "back_of" = true) (k14 : PySem.W.keepIn K (.ref f14) = true)
    (a15 : PySem.W.nsIn K mainGlobals "less_of" = some (some (.ref f15))) (l15 : K.lookup f15 = some ⟨oc15, od15, .func (PySem.W.fnOf "less_of" "less_of" (defArgs s_less_of) (defBody s_less_of) (defScope s_less_of) .none kV15 dc15 pm15 an15 cd15 ct15), sl15⟩) (c15 : PySem.W.codeIn K cd15 "less_of" = true) (k15 : PySem.W.keepIn K (.ref f15) = true)
    (a16 : PySem.W.nsIn K mainGlobals "cleared" = some (some (.ref f16))) (l16 : K.lookup f16 = some ⟨oc16, od16, .func (PySem.W.fnOf "cleared" "cleared" (defArgs s_cleared) (defBody s_cleared) (defScope s_cleared) .none kV16 dc16 pm16 an16 cd16 ct16), sl16⟩) (c16 : PySem.W.codeIn K cd16 "cleared" = true) (k16 : PySem.W.keepIn K (.ref f16) = true)
    (a17 : PySem.W.nsIn K mainGlobals "rank_of" = some (some (.ref f17))) (l17 : K.lookup f17 = some ⟨oc17, od17, .func (PySem.W.fnOf "rank_of" "rank_of" (defArgs s_rank_of) (defBody s_rank_of) (defScope s_rank_of) .none kV17 dc17 pm17 an17 cd17 ct17), sl17⟩) (c17 : PySem.W.codeIn K cd17 "rank_of" = true) (k17 : PySem.W.keepIn K (.ref f17) = true)
    (a18 : PySem.W.nsIn K mainGlobals "undone" = some (some (.ref f18))) (l18 : K.lookup f18 = some ⟨oc18, od18, .func (PySem.W.fnOf "undone" "undone" (defArgs s_undone) (defBody s_undone) (defScope s_undone) .none kV18 dc18 pm18 an18 cd18 ct18), sl18⟩) (c18 : PySem.W.codeIn K cd18 "undone" = true) (k18 : PySem.W.keepIn K (.ref f18) = true)
    (a19 : PySem.W.nsIn K mainGlobals "rank" = some (some (.ref f19))) (l19 : K.lookup f19 = some ⟨oc19, od19, .func (PySem.W.fnOf "rank" "rank" (defArgs s_rank) (defBody s_rank) (defScope s_rank) .none kV19 dc19 pm19 an19 cd19 ct19), sl19⟩) (c19 : PySem.W.codeIn K cd19 "rank" = true) (k19 : PySem.W.keepIn K (.ref f19) = true)
    (a20 : PySem.W.nsIn K mainGlobals "worth_of" = some (some (.ref f20))) (l20 : K.lookup f20 = some ⟨oc20, od20, .func (PySem.W.fnOf "worth_of" "worth_of" (defArgs s_worth_of) (defBody s_worth_of) (defScope s_worth_of) .none kV20 dc20 pm20 an20 cd20 ct20), sl20⟩) (c20 : PySem.W.codeIn K cd20 "worth_of" = true) (k20 : PySem.W.keepIn K (.ref f20) = true)
    (a21 : PySem.W.nsIn K mainGlobals "worth" = some (some (.ref f21))) (l21 : K.lookup f21 = some ⟨oc21, od21, .func (PySem.W.fnOf "worth" "worth" (defArgs s_worth) (defBody s_worth) (defScope s_worth) .none kV21 dc21 pm21 an21 cd21 ct21), sl21⟩) (c21 : PySem.W.codeIn K cd21 "worth" = true) (k21 : PySem.W.keepIn K (.ref f21) = true)
    (a22 : PySem.W.nsIn K mainGlobals "at_rule" = some (some (.ref f22))) (l22 : K.lookup f22 = some ⟨oc22, od22, .func (PySem.W.fnOf "at_rule" "at_rule" (defArgs s_at_rule) (defBody s_at_rule) (defScope s_at_rule) .none kV22 dc22 pm22 an22 cd22 ct22), sl22⟩) (c22 : PySem.W.codeIn K cd22 "at_rule" = true) (k22 : PySem.W.keepIn K (.ref f22) = true)
    (a23 : PySem.W.nsIn K mainGlobals "least_rule" = some (some (.ref f23))) (l23 : K.lookup f23 = some ⟨oc23, od23, .func (PySem.W.fnOf "least_rule" "least_rule" (defArgs s_least_rule) (defBody s_least_rule) (defScope s_least_rule) .none kV23 dc23 pm23 an23 cd23 ct23), sl23⟩) (c23 : PySem.W.codeIn K cd23 "least_rule" = true) (k23 : PySem.W.keepIn K (.ref f23) = true)
    (a24 : PySem.W.nsIn K mainGlobals "own_rule" = some (some (.ref f24))) (l24 : K.lookup f24 = some ⟨oc24, od24, .func (PySem.W.fnOf "own_rule" "own_rule" (defArgs s_own_rule) (defBody s_own_rule) (defScope s_own_rule) .none kV24 dc24 pm24 an24 cd24 ct24), sl24⟩) (c24 : PySem.W.codeIn K cd24 "own_rule" = true) (k24 : PySem.W.keepIn K (.ref f24) = true)
    (a25 : PySem.W.nsIn K mainGlobals "spanning" = some (some (.ref f25))) (l25 : K.lookup f25 = some ⟨oc25, od25, .func (PySem.W.fnOf "spanning" "spanning" (defArgs s_spanning) (defBody s_spanning) (defScope s_spanning) .none kV25 dc25 pm25 an25 cd25 ct25), sl25⟩) (c25 : PySem.W.codeIn K cd25 "spanning" = true) (k25 : PySem.W.keepIn K (.ref f25) = true)
    (a26 : PySem.W.nsIn K mainGlobals "comes_round" = some (some (.ref f26))) (l26 : K.lookup f26 = some ⟨oc26, od26, .func (PySem.W.fnOf "comes_round" "comes_round" (defArgs s_comes_round) (defBody s_comes_round) (defScope s_comes_round) .none kV26 dc26 pm26 an26 cd26 ct26), sl26⟩) (c26 : PySem.W.codeIn K cd26 "comes_round" = true) (k26 : PySem.W.keepIn K (.ref f26) = true)
    (a27 : PySem.W.nsIn K mainGlobals "back" = some (some (.ref f27))) (l27 : K.lookup f27 = some ⟨oc27, od27, .func (PySem.W.fnOf "back" "back" (defArgs s_back) (defBody s_back) (defScope s_back) .none kV27 dc27 pm27 an27 cd27 ct27), sl27⟩) (c27 : PySem.W.codeIn K cd27 "back" = true) (k27 : PySem.W.keepIn K (.ref f27) = true)
    (a28 : PySem.W.nsIn K mainGlobals "check_rows" = some (some (.ref f28))) (l28 : K.lookup f28 = some ⟨oc28, od28, .func (PySem.W.fnOf "check_rows" "check_rows" (defArgs s_check_rows) (defBody s_check_rows) (defScope s_check_rows) .none kV28 dc28 pm28 an28 cd28 ct28), sl28⟩) (c28 : PySem.W.codeIn K cd28 "check_rows" = true) (k28 : PySem.W.keepIn K (.ref f28) = true)
    (a29 : PySem.W.nsIn K mainGlobals "how_many" = some (some (.ref f29))) (l29 : K.lookup f29 = some ⟨oc29, od29, .func (PySem.W.fnOf "how_many" "how_many" (defArgs s_how_many) (defBody s_how_many) (defScope s_how_many) .none kV29 dc29 pm29 an29 cd29 ct29), sl29⟩) (c29 : PySem.W.codeIn K cd29 "how_many" = true) (k29 : PySem.W.keepIn K (.ref f29) = true)
    (a30 : PySem.W.nsIn K mainGlobals "check_many" = some (some (.ref f30))) (l30 : K.lookup f30 = some ⟨oc30, od30, .func (PySem.W.fnOf "check_many" "check_many" (defArgs s_check_many) (defBody s_check_many) (defScope s_check_many) .none kV30 dc30 pm30 an30 cd30 ct30), sl30⟩) (c30 : PySem.W.codeIn K cd30 "check_many" = true) (k30 : PySem.W.keepIn K (.ref f30) = true)
    (a31 : PySem.W.nsIn K mainGlobals "of_order" = some (some (.ref f31))) (l31 : K.lookup f31 = some ⟨oc31, od31, .func (PySem.W.fnOf "of_order" "of_order" (defArgs s_of_order) (defBody s_of_order) (defScope s_of_order) .none kV31 dc31 pm31 an31 cd31 ct31), sl31⟩) (c31 : PySem.W.codeIn K cd31 "of_order" = true) (k31 : PySem.W.keepIn K (.ref f31) = true)
    (a32 : PySem.W.nsIn K mainGlobals "table_by" = some (some (.ref f32))) (l32 : K.lookup f32 = some ⟨oc32, od32, .func (PySem.W.fnOf "table_by" "table_by" (defArgs s_table_by) (defBody s_table_by) (defScope s_table_by) .none kV32 dc32 pm32 an32 cd32 ct32), sl32⟩) (c32 : PySem.W.codeIn K cd32 "table_by" = true) (k32 : PySem.W.keepIn K (.ref f32) = true)
    (a33 : PySem.W.nsIn K mainGlobals "number_of" = some (some (.ref f33))) (l33 : K.lookup f33 = some ⟨oc33, od33, .func (PySem.W.fnOf "number_of" "number_of" (defArgs s_number_of) (defBody s_number_of) (defScope s_number_of) .none kV33 dc33 pm33 an33 cd33 ct33), sl33⟩) (c33 : PySem.W.codeIn K cd33 "number_of" = true) (k33 : PySem.W.keepIn K (.ref f33) = true)
    (a34 : PySem.W.nsIn K mainGlobals "check_tables" = some (some (.ref f34))) (l34 : K.lookup f34 = some ⟨oc34, od34, .func (PySem.W.fnOf "check_tables" "check_tables" (defArgs s_check_tables) (defBody s_check_tables) (defScope s_check_tables) .none kV34 dc34 pm34 an34 cd34 ct34), sl34⟩) (c34 : PySem.W.codeIn K cd34 "check_tables" = true) (k34 : PySem.W.keepIn K (.ref f34) = true)
    (a35 : PySem.W.nsIn K mainGlobals "words_of" = some (some (.ref f35))) (l35 : K.lookup f35 = some ⟨oc35, od35, .func (PySem.W.fnOf "words_of" "words_of" (defArgs s_words_of) (defBody s_words_of) (defScope s_words_of) .none kV35 dc35 pm35 an35 cd35 ct35), sl35⟩) (c35 : PySem.W.codeIn K cd35 "words_of" = true) (k35 : PySem.W.keepIn K (.ref f35) = true)
    (a36 : PySem.W.nsIn K mainGlobals "made" = some (some (.ref f36))) (l36 : K.lookup f36 = some ⟨oc36, od36, .func (PySem.W.fnOf "made" "made" (defArgs s_made) (defBody s_made) (defScope s_made) .none kV36 dc36 pm36 an36 cd36 ct36), sl36⟩) (c36 : PySem.W.codeIn K cd36 "made" = true) (k36 : PySem.W.keepIn K (.ref f36) = true)
    (a37 : PySem.W.nsIn K mainGlobals "word" = some (some (.ref f37))) (l37 : K.lookup f37 = some ⟨oc37, od37, .func (PySem.W.fnOf "word" "word" (defArgs s_word) (defBody s_word) (defScope s_word) .none kV37 dc37 pm37 an37 cd37 ct37), sl37⟩) (c37 : PySem.W.codeIn K cd37 "word" = true) (k37 : PySem.W.keepIn K (.ref f37) = true)
    (a38 : PySem.W.nsIn K mainGlobals "alike" = some (some (.ref f38))) (l38 : K.lookup f38 = some ⟨oc38, od38, .func (PySem.W.fnOf "alike" "alike" (defArgs s_alike) (defBody s_alike) (defScope s_alike) .none kV38 dc38 pm38 an38 cd38 ct38), sl38⟩) (c38 : PySem.W.codeIn K cd38 "alike" = true) (k38 : PySem.W.keepIn K (.ref f38) = true)
    (a39 : PySem.W.nsIn K mainGlobals "_law_cell_at" = some (some (.ref f39))) (l39 : K.lookup f39 = some ⟨oc39, od39, .func (PySem.W.fnOf "_law_cell_at" "_law_cell_at" (defArgs s__law_cell_at) (defBody s__law_cell_at) (defScope s__law_cell_at) .none kV39 dc39 pm39 an39 cd39 ct39), sl39⟩) (c39 : PySem.W.codeIn K cd39 "_law_cell_at" = true) (k39 : PySem.W.keepIn K (.ref f39) = true)
    (a40 : PySem.W.nsIn K mainGlobals "_law_draw" = some (some (.ref f40))) (l40 : K.lookup f40 = some ⟨oc40, od40, .func (PySem.W.fnOf "_law_draw" "_law_draw" (defArgs s__law_draw) (defBody s__law_draw) (defScope s__law_draw) .none kV40 dc40 pm40 an40 cd40 ct40), sl40⟩) (c40 : PySem.W.codeIn K cd40 "_law_draw" = true) (k40 : PySem.W.keepIn K (.ref f40) = true)
    (a41 : PySem.W.nsIn K mainGlobals "_law_value" = some (some (.ref f41))) (l41 : K.lookup f41 = some ⟨oc41, od41, .func (PySem.W.fnOf "_law_value" "_law_value" (defArgs s__law_value) (defBody s__law_value) (defScope s__law_value) .none kV41 dc41 pm41 an41 cd41 ct41), sl41⟩) (c41 : PySem.W.codeIn K cd41 "_law_value" = true) (k41 : PySem.W.keepIn K (.ref f41) = true)
    (a42 : PySem.W.nsIn K mainGlobals "_law_kinds" = some (some (.ref f42))) (l42 : K.lookup f42 = some ⟨oc42, od42, .func (PySem.W.fnOf "_law_kinds" "_law_kinds" (defArgs s__law_kinds) (defBody s__law_kinds) (defScope s__law_kinds) .none kV42 dc42 pm42 an42 cd42 ct42), sl42⟩) (c42 : PySem.W.codeIn K cd42 "_law_kinds" = true) (k42 : PySem.W.keepIn K (.ref f42) = true)
    (a43 : PySem.W.nsIn K mainGlobals "_law_due_of" = some (some (.ref f43))) (l43 : K.lookup f43 = some ⟨oc43, od43, .func (PySem.W.fnOf "_law_due_of" "_law_due_of" (defArgs s__law_due_of) (defBody s__law_due_of) (defScope s__law_due_of) .none kV43 dc43 pm43 an43 cd43 ct43), sl43⟩) (c43 : PySem.W.codeIn K cd43 "_law_due_of" = true) (k43 : PySem.W.keepIn K (.ref f43) = true)
    (a44 : PySem.W.nsIn K mainGlobals "_law_strange" = some (some (.ref f44))) (l44 : K.lookup f44 = some ⟨oc44, od44, .func (PySem.W.fnOf "_law_strange" "_law_strange" (defArgs s__law_strange) (defBody s__law_strange) (defScope s__law_strange) .none kV44 dc44 pm44 an44 cd44 ct44), sl44⟩) (c44 : PySem.W.codeIn K cd44 "_law_strange" = true) (k44 : PySem.W.keepIn K (.ref f44) = true)
    (a45 : PySem.W.nsIn K mainGlobals "_law_rounds_right" = some (some (.ref f45))) (l45 : K.lookup f45 = some ⟨oc45, od45, .func (PySem.W.fnOf "_law_rounds_right" "_law_rounds_right" (defArgs s__law_rounds_right) (defBody s__law_rounds_right) (defScope s__law_rounds_right) .none kV45 dc45 pm45 an45 (.ref cc_law_rounds_right) ct45), sl45⟩) (c45 : PySem.W.codeIn K (.ref cc_law_rounds_right) "_law_rounds_right" = true) (k45 : PySem.W.keepIn K (.ref f45) = true)
    (a46 : PySem.W.nsIn K mainGlobals "_law_no_tables" = some (some (.ref f46))) (l46 : K.lookup f46 = some ⟨oc46, od46, .func (PySem.W.fnOf "_law_no_tables" "_law_no_tables" (defArgs s__law_no_tables) (defBody s__law_no_tables) (defScope s__law_no_tables) .none kV46 dc46 pm46 an46 cd46 ct46), sl46⟩) (c46 : PySem.W.codeIn K cd46 "_law_no_tables" = true) (k46 : PySem.W.keepIn K (.ref f46) = true)
    (a47 : PySem.W.nsIn K mainGlobals "_law_tables_right" = some (some (.ref f47))) (l47 : K.lookup f47 = some ⟨oc47, od47, .func (PySem.W.fnOf "_law_tables_right" "_law_tables_right" (defArgs s__law_tables_right) (defBody s__law_tables_right) (defScope s__law_tables_right) .none kV47 dc47 pm47 an47 (.ref cc_law_tables_right) ct47), sl47⟩) (c47 : PySem.W.codeIn K (.ref cc_law_tables_right) "_law_tables_right" = true) (k47 : PySem.W.keepIn K (.ref f47) = true)
    (a48 : PySem.W.nsIn K mainGlobals "law" = some (some (.ref f48))) (l48 : K.lookup f48 = some ⟨oc48, od48, .func (PySem.W.fnOf "law" "law" (defArgs s_law) (defBody s_law) (defScope s_law) .none kV48 dc48 pm48 an48 (.ref cclaw) ct48), sl48⟩) (c48 : PySem.W.codeIn K (.ref cclaw) "law" = true) (k48 : PySem.W.keepIn K (.ref f48) = true)
    (z0 : PySem.W.nsIn K mainGlobals "isinstance" = some none)
    (z1 : PySem.W.nsIn K mainGlobals "int" = some none)
    (z2 : PySem.W.nsIn K mainGlobals "bool" = some none)
    (z3 : PySem.W.nsIn K mainGlobals "str" = some none)
    (z4 : PySem.W.nsIn K mainGlobals "list" = some none)
    (z5 : PySem.W.nsIn K mainGlobals "len" = some none)
    (z6 : PySem.W.nsIn K mainGlobals "all" = some none)
    (z7 : PySem.W.nsIn K mainGlobals "any" = some none)
    (z8 : PySem.W.nsIn K mainGlobals "range" = some none)
    (z9 : PySem.W.nsIn K mainGlobals "sum" = some none)
    (z10 : PySem.W.nsIn K mainGlobals "zip" = some none)
    (z11 : PySem.W.nsIn K mainGlobals "min" = some none)
    (z12 : PySem.W.nsIn K mainGlobals "max" = some none)
    (z13 : PySem.W.nsIn K mainGlobals "enumerate" = some none)
    (z14 : PySem.W.nsIn K mainGlobals "sorted" = some none)
    (z15 : PySem.W.nsIn K mainGlobals "ValueError" = some none)
    {CBadRound CBadTable CBadRow CBadCount CBadRule CBadNumber CUnlike CNotUndone CTooMany CTurnError : Addr}
    (hnX : PySem.W.specialIn K (.builtin "object.__class__") "__get__" = some (some (.builtin "getset_descriptor.__get__"))) (htkX : PySem.W.takesIn K (.builtin "object.__class__") = some true)
    (gBadRound : PySem.W.nsIn K mainGlobals "BadRound" = some (some (.ref CBadRound))) (cxBadRound : (PySem.W.clsIn K CBadRound).isSome = true) (txBadRound : PySem.W.typeIn K (.ref CBadRound) = some (.type "type"))
    (gBadTable : PySem.W.nsIn K mainGlobals "BadTable" = some (some (.ref CBadTable))) (cxBadTable : (PySem.W.clsIn K CBadTable).isSome = true) (txBadTable : PySem.W.typeIn K (.ref CBadTable) = some (.type "type"))
    (gBadRow : PySem.W.nsIn K mainGlobals "BadRow" = some (some (.ref CBadRow))) (cxBadRow : (PySem.W.clsIn K CBadRow).isSome = true) (txBadRow : PySem.W.typeIn K (.ref CBadRow) = some (.type "type"))
    (gBadCount : PySem.W.nsIn K mainGlobals "BadCount" = some (some (.ref CBadCount))) (cxBadCount : (PySem.W.clsIn K CBadCount).isSome = true) (txBadCount : PySem.W.typeIn K (.ref CBadCount) = some (.type "type"))
    (gBadRule : PySem.W.nsIn K mainGlobals "BadRule" = some (some (.ref CBadRule))) (cxBadRule : (PySem.W.clsIn K CBadRule).isSome = true) (txBadRule : PySem.W.typeIn K (.ref CBadRule) = some (.type "type"))
    (gBadNumber : PySem.W.nsIn K mainGlobals "BadNumber" = some (some (.ref CBadNumber))) (cxBadNumber : (PySem.W.clsIn K CBadNumber).isSome = true) (txBadNumber : PySem.W.typeIn K (.ref CBadNumber) = some (.type "type"))
    (gUnlike : PySem.W.nsIn K mainGlobals "Unlike" = some (some (.ref CUnlike))) (cxUnlike : (PySem.W.clsIn K CUnlike).isSome = true) (txUnlike : PySem.W.typeIn K (.ref CUnlike) = some (.type "type"))
    (gNotUndone : PySem.W.nsIn K mainGlobals "NotUndone" = some (some (.ref CNotUndone))) (cxNotUndone : (PySem.W.clsIn K CNotUndone).isSome = true) (txNotUndone : PySem.W.typeIn K (.ref CNotUndone) = some (.type "type"))
    (gTooMany : PySem.W.nsIn K mainGlobals "TooMany" = some (some (.ref CTooMany))) (cxTooMany : (PySem.W.clsIn K CTooMany).isSome = true) (txTooMany : PySem.W.typeIn K (.ref CTooMany) = some (.type "type"))
    (gTurnError : PySem.W.nsIn K mainGlobals "TurnError" = some (some (.ref CTurnError))) (cxTurnError : (PySem.W.clsIn K CTurnError).isSome = true) (txTurnError : PySem.W.typeIn K (.ref CTurnError) = some (.type "type"))
    (xsT : PySem.W.subIn K (.ref CTurnError) (.type "BaseException") = some true) (xdT : PySem.W.hasDictIn K CTurnError = true)
    (xqBadRound : PySem.W.excIn K CBadRound HandSPX.veTail "ValueError.__new__" = true)
    (xkBadRound : PySem.W.keepIn K (.ref CBadRound) = true)
    (xaBadRound : PySem.W.findIn K (.ref CBadRound) "__getattribute__" = some (some (.builtin "BaseException.__getattribute__")))
    (xbBadRound : PySem.W.findIn K (.ref CBadRound) "__getattr__" = some none)
    (xsBadRound : PySem.W.subIn K (.ref CBadRound) (.type "BaseException") = some true)
    (xdBadRound : PySem.W.hasDictIn K CBadRound = true)
    (xcBadRound : PySem.W.findIn K (.ref CBadRound) "__class__" = some (some (.builtin "object.__class__")))
    (xmBadRound : PySem.W.mroIn K CBadRound (.type "object") = some true)
    (xtBadRound : PySem.W.subIn K (.ref CBadRound) (.ref CTurnError) = some true)
    (xvBadRound : PySem.W.subIn K (.ref CBadRound) (.type "ValueError") = some true)
    (sBadRound_BadTable : PySem.W.subIn K (.ref CBadRound) (.ref CBadTable) = some false)
    (nBadRound_BadTable : ((Value.ref CBadRound) == (Value.ref CBadTable)) = false)
    (sBadRound_BadRow : PySem.W.subIn K (.ref CBadRound) (.ref CBadRow) = some false)
    (nBadRound_BadRow : ((Value.ref CBadRound) == (Value.ref CBadRow)) = false)
    (sBadRound_BadCount : PySem.W.subIn K (.ref CBadRound) (.ref CBadCount) = some false)
    (nBadRound_BadCount : ((Value.ref CBadRound) == (Value.ref CBadCount)) = false)
    (sBadRound_BadRule : PySem.W.subIn K (.ref CBadRound) (.ref CBadRule) = some false)
    (nBadRound_BadRule : ((Value.ref CBadRound) == (Value.ref CBadRule)) = false)
    (sBadRound_BadNumber : PySem.W.subIn K (.ref CBadRound) (.ref CBadNumber) = some false)
    (nBadRound_BadNumber : ((Value.ref CBadRound) == (Value.ref CBadNumber)) = false)
    (sBadRound_Unlike : PySem.W.subIn K (.ref CBadRound) (.ref CUnlike) = some false)
    (nBadRound_Unlike : ((Value.ref CBadRound) == (Value.ref CUnlike)) = false)
    (sBadRound_NotUndone : PySem.W.subIn K (.ref CBadRound) (.ref CNotUndone) = some false)
    (nBadRound_NotUndone : ((Value.ref CBadRound) == (Value.ref CNotUndone)) = false)
    (sBadRound_TooMany : PySem.W.subIn K (.ref CBadRound) (.ref CTooMany) = some false)
    (nBadRound_TooMany : ((Value.ref CBadRound) == (Value.ref CTooMany)) = false)
    (xqBadTable : PySem.W.excIn K CBadTable HandSPX.veTail "ValueError.__new__" = true)
    (xkBadTable : PySem.W.keepIn K (.ref CBadTable) = true)
    (xaBadTable : PySem.W.findIn K (.ref CBadTable) "__getattribute__" = some (some (.builtin "BaseException.__getattribute__")))
    (xbBadTable : PySem.W.findIn K (.ref CBadTable) "__getattr__" = some none)
    (xsBadTable : PySem.W.subIn K (.ref CBadTable) (.type "BaseException") = some true)
    (xdBadTable : PySem.W.hasDictIn K CBadTable = true)
    (xcBadTable : PySem.W.findIn K (.ref CBadTable) "__class__" = some (some (.builtin "object.__class__")))
    (xmBadTable : PySem.W.mroIn K CBadTable (.type "object") = some true)
    (xtBadTable : PySem.W.subIn K (.ref CBadTable) (.ref CTurnError) = some true)
    (xvBadTable : PySem.W.subIn K (.ref CBadTable) (.type "ValueError") = some true)
    (sBadTable_BadRound : PySem.W.subIn K (.ref CBadTable) (.ref CBadRound) = some false)
    (nBadTable_BadRound : ((Value.ref CBadTable) == (Value.ref CBadRound)) = false)
    (sBadTable_BadRow : PySem.W.subIn K (.ref CBadTable) (.ref CBadRow) = some false)
    (nBadTable_BadRow : ((Value.ref CBadTable) == (Value.ref CBadRow)) = false)
    (sBadTable_BadCount : PySem.W.subIn K (.ref CBadTable) (.ref CBadCount) = some false)
    (nBadTable_BadCount : ((Value.ref CBadTable) == (Value.ref CBadCount)) = false)
    (sBadTable_BadRule : PySem.W.subIn K (.ref CBadTable) (.ref CBadRule) = some false)
    (nBadTable_BadRule : ((Value.ref CBadTable) == (Value.ref CBadRule)) = false)
    (sBadTable_BadNumber : PySem.W.subIn K (.ref CBadTable) (.ref CBadNumber) = some false)
    (nBadTable_BadNumber : ((Value.ref CBadTable) == (Value.ref CBadNumber)) = false)
    (sBadTable_Unlike : PySem.W.subIn K (.ref CBadTable) (.ref CUnlike) = some false)
    (nBadTable_Unlike : ((Value.ref CBadTable) == (Value.ref CUnlike)) = false)
    (sBadTable_NotUndone : PySem.W.subIn K (.ref CBadTable) (.ref CNotUndone) = some false)
    (nBadTable_NotUndone : ((Value.ref CBadTable) == (Value.ref CNotUndone)) = false)
    (sBadTable_TooMany : PySem.W.subIn K (.ref CBadTable) (.ref CTooMany) = some false)
    (nBadTable_TooMany : ((Value.ref CBadTable) == (Value.ref CTooMany)) = false)
    (xqUnlike : PySem.W.excIn K CUnlike HandSPX.veTail "ValueError.__new__" = true)
    (xkUnlike : PySem.W.keepIn K (.ref CUnlike) = true)
    (xaUnlike : PySem.W.findIn K (.ref CUnlike) "__getattribute__" = some (some (.builtin "BaseException.__getattribute__")))
    (xbUnlike : PySem.W.findIn K (.ref CUnlike) "__getattr__" = some none)
    (xsUnlike : PySem.W.subIn K (.ref CUnlike) (.type "BaseException") = some true)
    (xdUnlike : PySem.W.hasDictIn K CUnlike = true)
    (xcUnlike : PySem.W.findIn K (.ref CUnlike) "__class__" = some (some (.builtin "object.__class__")))
    (xmUnlike : PySem.W.mroIn K CUnlike (.type "object") = some true)
    (xtUnlike : PySem.W.subIn K (.ref CUnlike) (.ref CTurnError) = some true)
    (xvUnlike : PySem.W.subIn K (.ref CUnlike) (.type "ValueError") = some true)
    (sUnlike_BadRound : PySem.W.subIn K (.ref CUnlike) (.ref CBadRound) = some false)
    (nUnlike_BadRound : ((Value.ref CUnlike) == (Value.ref CBadRound)) = false)
    (sUnlike_BadTable : PySem.W.subIn K (.ref CUnlike) (.ref CBadTable) = some false)
    (nUnlike_BadTable : ((Value.ref CUnlike) == (Value.ref CBadTable)) = false)
    (sUnlike_BadRow : PySem.W.subIn K (.ref CUnlike) (.ref CBadRow) = some false)
    (nUnlike_BadRow : ((Value.ref CUnlike) == (Value.ref CBadRow)) = false)
    (sUnlike_BadCount : PySem.W.subIn K (.ref CUnlike) (.ref CBadCount) = some false)
    (nUnlike_BadCount : ((Value.ref CUnlike) == (Value.ref CBadCount)) = false)
    (sUnlike_BadRule : PySem.W.subIn K (.ref CUnlike) (.ref CBadRule) = some false)
    (nUnlike_BadRule : ((Value.ref CUnlike) == (Value.ref CBadRule)) = false)
    (sUnlike_BadNumber : PySem.W.subIn K (.ref CUnlike) (.ref CBadNumber) = some false)
    (nUnlike_BadNumber : ((Value.ref CUnlike) == (Value.ref CBadNumber)) = false)
    (sUnlike_NotUndone : PySem.W.subIn K (.ref CUnlike) (.ref CNotUndone) = some false)
    (nUnlike_NotUndone : ((Value.ref CUnlike) == (Value.ref CNotUndone)) = false)
    (sUnlike_TooMany : PySem.W.subIn K (.ref CUnlike) (.ref CTooMany) = some false)
    (nUnlike_TooMany : ((Value.ref CUnlike) == (Value.ref CTooMany)) = false)
    (xqNotUndone : PySem.W.excIn K CNotUndone HandSPX.veTail "ValueError.__new__" = true)
    (xkNotUndone : PySem.W.keepIn K (.ref CNotUndone) = true)
    (xaNotUndone : PySem.W.findIn K (.ref CNotUndone) "__getattribute__" = some (some (.builtin "BaseException.__getattribute__")))
    (xbNotUndone : PySem.W.findIn K (.ref CNotUndone) "__getattr__" = some none)
    (xsNotUndone : PySem.W.subIn K (.ref CNotUndone) (.type "BaseException") = some true)
    (xdNotUndone : PySem.W.hasDictIn K CNotUndone = true)
    (xcNotUndone : PySem.W.findIn K (.ref CNotUndone) "__class__" = some (some (.builtin "object.__class__")))
    (xmNotUndone : PySem.W.mroIn K CNotUndone (.type "object") = some true)
    (xtNotUndone : PySem.W.subIn K (.ref CNotUndone) (.ref CTurnError) = some true)
    (xvNotUndone : PySem.W.subIn K (.ref CNotUndone) (.type "ValueError") = some true)
    (sNotUndone_BadRound : PySem.W.subIn K (.ref CNotUndone) (.ref CBadRound) = some false)
    (nNotUndone_BadRound : ((Value.ref CNotUndone) == (Value.ref CBadRound)) = false)
    (sNotUndone_BadTable : PySem.W.subIn K (.ref CNotUndone) (.ref CBadTable) = some false)
    (nNotUndone_BadTable : ((Value.ref CNotUndone) == (Value.ref CBadTable)) = false)
    (sNotUndone_BadRow : PySem.W.subIn K (.ref CNotUndone) (.ref CBadRow) = some false)
    (nNotUndone_BadRow : ((Value.ref CNotUndone) == (Value.ref CBadRow)) = false)
    (sNotUndone_BadCount : PySem.W.subIn K (.ref CNotUndone) (.ref CBadCount) = some false)
    (nNotUndone_BadCount : ((Value.ref CNotUndone) == (Value.ref CBadCount)) = false)
    (sNotUndone_BadRule : PySem.W.subIn K (.ref CNotUndone) (.ref CBadRule) = some false)
    (nNotUndone_BadRule : ((Value.ref CNotUndone) == (Value.ref CBadRule)) = false)
    (sNotUndone_BadNumber : PySem.W.subIn K (.ref CNotUndone) (.ref CBadNumber) = some false)
    (nNotUndone_BadNumber : ((Value.ref CNotUndone) == (Value.ref CBadNumber)) = false)
    (sNotUndone_Unlike : PySem.W.subIn K (.ref CNotUndone) (.ref CUnlike) = some false)
    (nNotUndone_Unlike : ((Value.ref CNotUndone) == (Value.ref CUnlike)) = false)
    (sNotUndone_TooMany : PySem.W.subIn K (.ref CNotUndone) (.ref CTooMany) = some false)
    (nNotUndone_TooMany : ((Value.ref CNotUndone) == (Value.ref CTooMany)) = false)
    (lc_law_rounds_right : K.lookup cc_law_rounds_right = some ⟨ot_law_rounds_right, dt_law_rounds_right, .fields vt_law_rounds_right, st_law_rounds_right⟩) (vp_law_rounds_right : (vt_law_rounds_right[11]? : Option Value) = some (.ref P_law_rounds_right)) (rc_law_rounds_right : PySem.W.codeHdIn K cc_law_rounds_right P_law_rounds_right = true) (mP_law_rounds_right : P_law_rounds_right ∈ tsL) (np_law_rounds_right : K.lookup P_law_rounds_right = none)
    (lc_law_tables_right : K.lookup cc_law_tables_right = some ⟨ot_law_tables_right, dt_law_tables_right, .fields vt_law_tables_right, st_law_tables_right⟩) (vp_law_tables_right : (vt_law_tables_right[11]? : Option Value) = some (.ref P_law_tables_right)) (rc_law_tables_right : PySem.W.codeHdIn K cc_law_tables_right P_law_tables_right = true) (mP_law_tables_right : P_law_tables_right ∈ tsL) (np_law_tables_right : K.lookup P_law_tables_right = none)
    (lclaw : K.lookup cclaw = some ⟨otlaw, dtlaw, .fields vtlaw, stlaw⟩) (vplaw : (vtlaw[11]? : Option Value) = some (.ref Plaw)) (rclaw : PySem.W.codeHdIn K cclaw Plaw = true) (mPlaw : Plaw ∈ tsL) (nplaw : K.lookup Plaw = none)
    (dP_law_rounds_right__law_tables_right : P_law_rounds_right ≠ P_law_tables_right)
    (dP_law_rounds_right_law : P_law_rounds_right ≠ Plaw)
    (dP_law_tables_right_law : P_law_tables_right ≠ Plaw)
    {tm tm2 t1 t2 t3 t4 : Tok} {rc : Addr} {rd : Option Addr} {rn : Nat} {rs : Array (Option Value)} (u0 : PySem.W.nsIn K mainGlobals "MOST" = some (some (.int 3 tm))) (u3 : PySem.W.nsIn K mainGlobals "MOST_MADE" = some (some (.int 200 tm2)))
    (u1 : PySem.W.nsIn K mainGlobals "ROUNDS" = some (some (.ref rc))) (u2 : K.lookup rc = some ⟨.type "tuple", rd, .seq #[.int 2 t1, .int 3 t2, .int 5 t3, .int 7 t4] rn, rs⟩)
    : ∃ (fd : FuncData) (cs : List (Addr × Addr)) (sp : L2.Sp), (∀ (s : Shared) (u : Value), BindsTo s fd ⟨[u], []⟩ [("_law_script", u)]) ∧ TabH K h cs ∧ (∀ (H : Hp) (a : Addr) (ns : List Int), ns.length ≤ 63 → (∀ p ∈ cs, H p.2 = some (.tbl #[])) → SqL K H a (ns.map V.int) → sp [.ref a] H (fun v _ => v = .bl true) E0) ∧
        ∀ base : Heap, K.In base → base.Ns mainGlobals mg → (∀ p ∈ cs, LamX.TabB base mg p.1 p.2) → FnG P w K mg base CX0 11 fa fd ["_law_script"] sp := by
  have e := hfa.symm.trans (PySem.W.mg_of X G a48)
  cases e
  have hd_law_rounds_right := PySem.W.codeHd_of_K X rc_law_rounds_right
  have em_law_rounds_right := hTab P_law_rounds_right mP_law_rounds_right
  have hd_law_tables_right := PySem.W.codeHd_of_K X rc_law_tables_right
  have em_law_tables_right := hTab P_law_tables_right mP_law_tables_right
  have hdlaw := PySem.W.codeHd_of_K X rclaw
  have emlaw := hTab Plaw mPlaw
  let Ts : List (Addr × Str) := [(P_law_rounds_right, lamQ "_law_rounds_right"), (P_law_tables_right, lamQ "_law_tables_right"), (Plaw, lamQ "law")]
  refine ⟨PySem.W.fnOf "law" "law" (defArgs s_law) (defBody s_law) (defScope s_law) .none kV48 dc48 pm48 an48 (.ref cclaw) ct48, [(cc_law_rounds_right, P_law_rounds_right), (cc_law_tables_right, P_law_tables_right), (cclaw, Plaw)], spLT 63 K Ts, fun s v => .of_eq rfl, ⟨?_, ?_, ?_⟩, fun H a ns hl hH hS => ⟨a, ns, rfl, hS, hl, ?_, fun _ => rfl⟩, fun base _ _ TBs => ?_⟩
  · intro p hp
    simp only [List.mem_cons, List.not_mem_nil, or_false] at hp
    rcases hp with rfl | rfl | rfl
    · exact em_law_rounds_right
    · exact em_law_tables_right
    · exact emlaw
  · intro p hp
    simp only [List.mem_cons, List.not_mem_nil, or_false] at hp
    rcases hp with rfl | rfl | rfl
    · exact np_law_rounds_right
    · exact np_law_tables_right
    · exact nplaw
  · intro p hp
    simp only [List.mem_cons, List.not_mem_nil, or_false] at hp
    rcases hp with rfl | rfl | rfl
    · exact hd_law_rounds_right
    · exact hd_law_tables_right
    · exact hdlaw
  · intro p hp
    simp only [Ts, List.mem_cons, List.not_mem_nil, or_false] at hp
    rcases hp with rfl | rfl | rfl
    · exact LamX.TabS.nil (hH (cc_law_rounds_right, P_law_rounds_right) (by simp))
    · exact LamX.TabS.nil (hH (cc_law_tables_right, P_law_tables_right) (by simp))
    · exact LamX.TabS.nil (hH (cclaw, Plaw) (by simp))
  have TB__law_rounds_right : LamX.TabB base mg cc_law_rounds_right P_law_rounds_right := TBs (cc_law_rounds_right, P_law_rounds_right) (by simp)
  have hT__law_rounds_right : (P_law_rounds_right, lamQ "_law_rounds_right") ∈ Ts := by simp [Ts]
  have hu__law_rounds_right : ∀ p ∈ Ts, p.1 = P_law_rounds_right → p.2 = lamQ "_law_rounds_right" := by
    intro p hp e
    simp only [Ts, List.mem_cons, List.not_mem_nil, or_false] at hp
    rcases hp with rfl | rfl | rfl
    · rfl
    · exact absurd e (Ne.symm dP_law_rounds_right__law_tables_right)
    · exact absurd e (Ne.symm dP_law_rounds_right_law)
  have TB__law_tables_right : LamX.TabB base mg cc_law_tables_right P_law_tables_right := TBs (cc_law_tables_right, P_law_tables_right) (by simp)
  have hT__law_tables_right : (P_law_tables_right, lamQ "_law_tables_right") ∈ Ts := by simp [Ts]
  have hu__law_tables_right : ∀ p ∈ Ts, p.1 = P_law_tables_right → p.2 = lamQ "_law_tables_right" := by
    intro p hp e
    simp only [Ts, List.mem_cons, List.not_mem_nil, or_false] at hp
    rcases hp with rfl | rfl | rfl
    · exact absurd e (dP_law_rounds_right__law_tables_right)
    · rfl
    · exact absurd e (Ne.symm dP_law_tables_right_law)
  have TB_law : LamX.TabB base mg cclaw Plaw := TBs (cclaw, Plaw) (by simp)
  have hT_law : (Plaw, lamQ "law") ∈ Ts := by simp [Ts]
  have hu_law : ∀ p ∈ Ts, p.1 = Plaw → p.2 = lamQ "law" := by
    intro p hp e
    simp only [Ts, List.mem_cons, List.not_mem_nil, or_false] at hp
    rcases hp with rfl | rfl | rfl
    · exact absurd e (dP_law_rounds_right_law)
    · exact absurd e (dP_law_tables_right_law)
    · rfl
  let M : Md := ⟨P, w, K, mg, base⟩
  have F_is_whole : FnE M "is_whole" s_is_whole P_is_whole := .mk X G a0 l0 c0 k0 fun _ _ _ _ _ _ us hl => match us, hl with | [_], _ => rfl
  have F_check_round : FnE M "check_round" s_check_round P_check_round := .mk X G a1 l1 c1 k1 fun _ _ _ _ _ _ us hl => match us, hl with | [_], _ => rfl
  have F_is_row : FnE M "is_row" s_is_row P_is_row := .mk X G a2 l2 c2 k2 fun _ _ _ _ _ _ us hl => match us, hl with | [_, _, _], _ => rfl
  have F_is_table : FnE M "is_table" s_is_table P_is_table := .mk X G a3 l3 c3 k3 fun _ _ _ _ _ _ us hl => match us, hl with | [_, _], _ => rfl
  have F_check_table : FnE M "check_table" s_check_table P_check_table := .mk X G a4 l4 c4 k4 fun _ _ _ _ _ _ us hl => match us, hl with | [_, _], _ => rfl
  have F_check_one : FnE M "check_one" s_check_one P_check_one := .mk X G a5 l5 c5 k5 fun _ _ _ _ _ _ us hl => match us, hl with | [_, _], _ => rfl
  have F_check_two : FnE M "check_two" s_check_two P_check_two := .mk X G a6 l6 c6 k6 fun _ _ _ _ _ _ us hl => match us, hl with | [_, _, _], _ => rfl
  have F_unit_of : FnE M "unit_of" s_unit_of P_unit_of := .mk X G a7 l7 c7 k7 fun _ _ _ _ _ _ us hl => match us, hl with | [_], _ => rfl
  have F_moved_of : FnE M "moved_of" s_moved_of P_moved_of := .mk X G a8 l8 c8 k8 fun _ _ _ _ _ _ us hl => match us, hl with | [_, _, _], _ => rfl
  have F_moved : FnE M "moved" s_moved P_moved := .mk X G a9 l9 c9 k9 fun _ _ _ _ _ _ us hl => match us, hl with | [_, _, _], _ => rfl
  have F_behind_of : FnE M "behind_of" s_behind_of P_behind_of := .mk X G a10 l10 c10 k10 fun _ _ _ _ _ _ us hl => match us, hl with | [_, _, _], _ => rfl
  have F_behind : FnE M "behind" s_behind P_behind := .mk X G a11 l11 c11 k11 fun _ _ _ _ _ _ us hl => match us, hl with | [_, _, _], _ => rfl
  have F_together : FnE M "together" s_together P_together := .mk X G a12 l12 c12 k12 fun _ _ _ _ _ _ us hl => match us, hl with | [_, _, _], _ => rfl
  have F_turned : FnE M "turned" s_turned P_turned := .mk X G a13 l13 c13 k13 fun _ _ _ _ _ _ us hl => match us, hl with | [_, _, _], _ => rfl
  have F_back_of : FnE M "back_of" s_back_of P_back_of := .mk X G a14 l14 c14 k14 fun _ _ _ _ _ _ us hl => match us, hl with | [_, _], _ => rfl
  have F_less_of : FnE M "less_of" s_less_of P_less_of := .mk X G a15 l15 c15 k15 fun _ _ _ _ _ _ us hl => match us, hl with | [_, _, _, _], _ => rfl
  have F_cleared : FnE M "cleared" s_cleared P_cleared := .mk X G a16 l16 c16 k16 fun _ _ _ _ _ _ us hl => match us, hl with | [_, _, _], _ => rfl
  have F_rank_of : FnE M "rank_of" s_rank_of P_rank_of := .mk X G a17 l17 c17 k17 fun _ _ _ _ _ _ us hl => match us, hl with | [_, _], _ => rfl
  have F_undone : FnE M "undone" s_undone P_undone := .mk X G a18 l18 c18 k18 fun _ _ _ _ _ _ us hl => match us, hl with | [_, _], _ => rfl
  have F_rank : FnE M "rank" s_rank P_rank := .mk X G a19 l19 c19 k19 fun _ _ _ _ _ _ us hl => match us, hl with | [_, _], _ => rfl
  have F_worth_of : FnE M "worth_of" s_worth_of P_worth_of := .mk X G a20 l20 c20 k20 fun _ _ _ _ _ _ us hl => match us, hl with | [_, _], _ => rfl
  have F_worth : FnE M "worth" s_worth P_worth := .mk X G a21 l21 c21 k21 fun _ _ _ _ _ _ us hl => match us, hl with | [_, _], _ => rfl
  have F_at_rule : FnE M "at_rule" s_at_rule P_at_rule := .mk X G a22 l22 c22 k22 fun _ _ _ _ _ _ us hl => match us, hl with | [_, _, _], _ => rfl
  have F_least_rule : FnE M "least_rule" s_least_rule P_least_rule := .mk X G a23 l23 c23 k23 fun _ _ _ _ _ _ us hl => match us, hl with | [_, _], _ => rfl
  have F_own_rule : FnE M "own_rule" s_own_rule P_own_rule := .mk X G a24 l24 c24 k24 fun _ _ _ _ _ _ us hl => match us, hl with | [_, _], _ => rfl
  have F_spanning : FnE M "spanning" s_spanning P_spanning := .mk X G a25 l25 c25 k25 fun _ _ _ _ _ _ us hl => match us, hl with | [_, _], _ => rfl
  have F_comes_round : FnE M "comes_round" s_comes_round P_comes_round := .mk X G a26 l26 c26 k26 fun _ _ _ _ _ _ us hl => match us, hl with | [_, _], _ => rfl
  have F_back : FnE M "back" s_back P_back := .mk X G a27 l27 c27 k27 fun _ _ _ _ _ _ us hl => match us, hl with | [_, _], _ => rfl
  have F_check_rows : FnE M "check_rows" s_check_rows P_check_rows := .mk X G a28 l28 c28 k28 fun _ _ _ _ _ _ us hl => match us, hl with | [_, _], _ => rfl
  have F_how_many : FnE M "how_many" s_how_many P_how_many := .mk X G a29 l29 c29 k29 fun _ _ _ _ _ _ us hl => match us, hl with | [_, _], _ => rfl
  have F_check_many : FnE M "check_many" s_check_many P_check_many := .mk X G a30 l30 c30 k30 fun _ _ _ _ _ _ us hl => match us, hl with | [_, _, _], _ => rfl
  have F_of_order : FnE M "of_order" s_of_order P_of_order := .mk X G a31 l31 c31 k31 fun _ _ _ _ _ _ us hl => match us, hl with | [_, _, _], _ => rfl
  have F_table_by : FnE M "table_by" s_table_by P_table_by := .mk X G a32 l32 c32 k32 fun _ _ _ _ _ _ us hl => match us, hl with | [_, _, _, _], _ => rfl
  have F_number_of : FnE M "number_of" s_number_of P_number_of := .mk X G a33 l33 c33 k33 fun _ _ _ _ _ _ us hl => match us, hl with | [_, _], _ => rfl
  have F_check_tables : FnE M "check_tables" s_check_tables P_check_tables := .mk X G a34 l34 c34 k34 fun _ _ _ _ _ _ us hl => match us, hl with | [_, _], _ => rfl
  have F_words_of : FnE M "words_of" s_words_of P_words_of := .mk X G a35 l35 c35 k35 fun _ _ _ _ _ _ us hl => match us, hl with | [_, _], _ => rfl
  have F_made : FnE M "made" s_made P_made := .mk X G a36 l36 c36 k36 fun _ _ _ _ _ _ us hl => match us, hl with | [_, _], _ => rfl
  have F_word : FnE M "word" s_word P_word := .mk X G a37 l37 c37 k37 fun _ _ _ _ _ _ us hl => match us, hl with | [_, _, _], _ => rfl
  have F_alike : FnE M "alike" s_alike P_alike := .mk X G a38 l38 c38 k38 fun _ _ _ _ _ _ us hl => match us, hl with | [_, _, _], _ => rfl
  have F__law_cell_at : FnE M "_law_cell_at" s__law_cell_at P__law_cell_at := .mk X G a39 l39 c39 k39 fun _ _ _ _ _ _ us hl => match us, hl with | [_, _], _ => rfl
  have F__law_draw : FnE M "_law_draw" s__law_draw P__law_draw := .mk X G a40 l40 c40 k40 fun _ _ _ _ _ _ us hl => match us, hl with | [_, _, _], _ => rfl
  have F__law_value : FnE M "_law_value" s__law_value P__law_value := .mk X G a41 l41 c41 k41 fun _ _ _ _ _ _ us hl => match us, hl with | [_, _], _ => rfl
  have F__law_kinds : FnE M "_law_kinds" s__law_kinds P__law_kinds := .mk X G a42 l42 c42 k42 fun _ _ _ _ _ _ us hl => match us, hl with | [_], _ => rfl
  have F__law_due_of : FnE M "_law_due_of" s__law_due_of P__law_due_of := .mk X G a43 l43 c43 k43 fun _ _ _ _ _ _ us hl => match us, hl with | [_], _ => rfl
  have F__law_strange : FnE M "_law_strange" s__law_strange P__law_strange := .mk X G a44 l44 c44 k44 fun _ _ _ _ _ _ us hl => match us, hl with | [_], _ => rfl
  have F__law_rounds_right : FnC M "_law_rounds_right" s__law_rounds_right P__law_rounds_right cc_law_rounds_right := .mk X G a45 l45 c45 k45 fun _ _ _ _ _ _ us hl => match us, hl with | [_], _ => rfl
  have F__law_no_tables : FnE M "_law_no_tables" s__law_no_tables P__law_no_tables := .mk X G a46 l46 c46 k46 fun _ _ _ _ _ _ us hl => match us, hl with | [_], _ => rfl
  have F__law_tables_right : FnC M "_law_tables_right" s__law_tables_right P__law_tables_right cc_law_tables_right := .mk X G a47 l47 c47 k47 fun _ _ _ _ _ _ us hl => match us, hl with | [_], _ => rfl
  have Z_isinstance : M.mg "isinstance" = none := PySem.W.mg_none_of X G z0
  have Z_int : M.mg "int" = none := PySem.W.mg_none_of X G z1
  have Z_bool : M.mg "bool" = none := PySem.W.mg_none_of X G z2
  have Z_str : M.mg "str" = none := PySem.W.mg_none_of X G z3
  have Z_list : M.mg "list" = none := PySem.W.mg_none_of X G z4
  have Z_len : M.mg "len" = none := PySem.W.mg_none_of X G z5
  have Z_all : M.mg "all" = none := PySem.W.mg_none_of X G z6
  have Z_any : M.mg "any" = none := PySem.W.mg_none_of X G z7
  have Z_range : M.mg "range" = none := PySem.W.mg_none_of X G z8
  have Z_sum : M.mg "sum" = none := PySem.W.mg_none_of X G z9
  have Z_zip : M.mg "zip" = none := PySem.W.mg_none_of X G z10
  have Z_min : M.mg "min" = none := PySem.W.mg_none_of X G z11
  have Z_max : M.mg "max" = none := PySem.W.mg_none_of X G z12
  have Z_enumerate : M.mg "enumerate" = none := PySem.W.mg_none_of X G z13
  have Z_sorted : M.mg "sorted" = none := PySem.W.mg_none_of X G z14
  have Z_ValueError : M.mg "ValueError" = none := PySem.W.mg_none_of X G z15
  have m_BadRound : M.mg "BadRound" = some (.ref CBadRound) := PySem.W.mg_of X G gBadRound
  have m_BadTable : M.mg "BadTable" = some (.ref CBadTable) := PySem.W.mg_of X G gBadTable
  have m_BadRow : M.mg "BadRow" = some (.ref CBadRow) := PySem.W.mg_of X G gBadRow
  have m_BadCount : M.mg "BadCount" = some (.ref CBadCount) := PySem.W.mg_of X G gBadCount
  have m_BadRule : M.mg "BadRule" = some (.ref CBadRule) := PySem.W.mg_of X G gBadRule
  have m_BadNumber : M.mg "BadNumber" = some (.ref CBadNumber) := PySem.W.mg_of X G gBadNumber
  have m_Unlike : M.mg "Unlike" = some (.ref CUnlike) := PySem.W.mg_of X G gUnlike
  have m_NotUndone : M.mg "NotUndone" = some (.ref CNotUndone) := PySem.W.mg_of X G gNotUndone
  have m_TooMany : M.mg "TooMany" = some (.ref CTooMany) := PySem.W.mg_of X G gTooMany
  have m_TurnError : M.mg "TurnError" = some (.ref CTurnError) := PySem.W.mg_of X G gTurnError
  let cE : Nat → Addr := fun i => match i with | 0 => CBadRound | 1 => CBadTable | 2 => CBadRow | 3 => CBadCount | 4 => CBadRule | 5 => CBadNumber | 6 => CUnlike | 7 => CNotUndone | _ => CTooMany
  have NI : Nine M cE CTurnError := ⟨m_BadRound, m_BadTable, m_BadRow, m_BadCount, m_BadRule, m_BadNumber, m_Unlike, m_NotUndone, m_TooMany, m_TurnError, Z_isinstance, Z_ValueError⟩
  have erBadRound : ErrC M CBadRound := ⟨xqBadRound, xkBadRound, ⟨xaBadRound, xbBadRound, xsBadRound, xdBadRound, xcBadRound, hnX, htkX, xmBadRound⟩, txBadRound⟩
  have KO0 : KindOf M cE CTurnError (cE 0) 0 := ⟨erBadRound, PySem.W.exm_ref xsT xdT txTurnError xtBadRound, fun i hi => (match i, hi with | 0, _ => if_pos (beq_self_eq_true _) | 1, _ => kit_mk cxBadTable txBadTable sBadRound_BadTable nBadRound_BadTable | 2, _ => kit_mk cxBadRow txBadRow sBadRound_BadRow nBadRound_BadRow | 3, _ => kit_mk cxBadCount txBadCount sBadRound_BadCount nBadRound_BadCount | 4, _ => kit_mk cxBadRule txBadRule sBadRound_BadRule nBadRound_BadRule | 5, _ => kit_mk cxBadNumber txBadNumber sBadRound_BadNumber nBadRound_BadNumber | 6, _ => kit_mk cxUnlike txUnlike sBadRound_Unlike nBadRound_Unlike | 7, _ => kit_mk cxNotUndone txNotUndone sBadRound_NotUndone nBadRound_NotUndone | 8, _ => kit_mk cxTooMany txTooMany sBadRound_TooMany nBadRound_TooMany), kit_bt (by decide +kernel) xvBadRound⟩
  have erBadTable : ErrC M CBadTable := ⟨xqBadTable, xkBadTable, ⟨xaBadTable, xbBadTable, xsBadTable, xdBadTable, xcBadTable, hnX, htkX, xmBadTable⟩, txBadTable⟩
  have KO1 : KindOf M cE CTurnError (cE 1) 1 := ⟨erBadTable, PySem.W.exm_ref xsT xdT txTurnError xtBadTable, fun i hi => (match i, hi with | 0, _ => kit_mk cxBadRound txBadRound sBadTable_BadRound nBadTable_BadRound | 1, _ => if_pos (beq_self_eq_true _) | 2, _ => kit_mk cxBadRow txBadRow sBadTable_BadRow nBadTable_BadRow | 3, _ => kit_mk cxBadCount txBadCount sBadTable_BadCount nBadTable_BadCount | 4, _ => kit_mk cxBadRule txBadRule sBadTable_BadRule nBadTable_BadRule | 5, _ => kit_mk cxBadNumber txBadNumber sBadTable_BadNumber nBadTable_BadNumber | 6, _ => kit_mk cxUnlike txUnlike sBadTable_Unlike nBadTable_Unlike | 7, _ => kit_mk cxNotUndone txNotUndone sBadTable_NotUndone nBadTable_NotUndone | 8, _ => kit_mk cxTooMany txTooMany sBadTable_TooMany nBadTable_TooMany), kit_bt (by decide +kernel) xvBadTable⟩
  have erUnlike : ErrC M CUnlike := ⟨xqUnlike, xkUnlike, ⟨xaUnlike, xbUnlike, xsUnlike, xdUnlike, xcUnlike, hnX, htkX, xmUnlike⟩, txUnlike⟩
  have KO6 : KindOf M cE CTurnError (cE 6) 6 := ⟨erUnlike, PySem.W.exm_ref xsT xdT txTurnError xtUnlike, fun i hi => (match i, hi with | 0, _ => kit_mk cxBadRound txBadRound sUnlike_BadRound nUnlike_BadRound | 1, _ => kit_mk cxBadTable txBadTable sUnlike_BadTable nUnlike_BadTable | 2, _ => kit_mk cxBadRow txBadRow sUnlike_BadRow nUnlike_BadRow | 3, _ => kit_mk cxBadCount txBadCount sUnlike_BadCount nUnlike_BadCount | 4, _ => kit_mk cxBadRule txBadRule sUnlike_BadRule nUnlike_BadRule | 5, _ => kit_mk cxBadNumber txBadNumber sUnlike_BadNumber nUnlike_BadNumber | 6, _ => if_pos (beq_self_eq_true _) | 7, _ => kit_mk cxNotUndone txNotUndone sUnlike_NotUndone nUnlike_NotUndone | 8, _ => kit_mk cxTooMany txTooMany sUnlike_TooMany nUnlike_TooMany), kit_bt (by decide +kernel) xvUnlike⟩
  have erNotUndone : ErrC M CNotUndone := ⟨xqNotUndone, xkNotUndone, ⟨xaNotUndone, xbNotUndone, xsNotUndone, xdNotUndone, xcNotUndone, hnX, htkX, xmNotUndone⟩, txNotUndone⟩
  have KO7 : KindOf M cE CTurnError (cE 7) 7 := ⟨erNotUndone, PySem.W.exm_ref xsT xdT txTurnError xtNotUndone, fun i hi => (match i, hi with | 0, _ => kit_mk cxBadRound txBadRound sNotUndone_BadRound nNotUndone_BadRound | 1, _ => kit_mk cxBadTable txBadTable sNotUndone_BadTable nNotUndone_BadTable | 2, _ => kit_mk cxBadRow txBadRow sNotUndone_BadRow nNotUndone_BadRow | 3, _ => kit_mk cxBadCount txBadCount sNotUndone_BadCount nNotUndone_BadCount | 4, _ => kit_mk cxBadRule txBadRule sNotUndone_BadRule nNotUndone_BadRule | 5, _ => kit_mk cxBadNumber txBadNumber sNotUndone_BadNumber nNotUndone_BadNumber | 6, _ => kit_mk cxUnlike txUnlike sNotUndone_Unlike nNotUndone_Unlike | 7, _ => if_pos (beq_self_eq_true _) | 8, _ => kit_mk cxTooMany txTooMany sNotUndone_TooMany nNotUndone_TooMany), kit_bt (by decide +kernel) xvNotUndone⟩
  have B : BI M.mg := ⟨Z_isinstance, Z_int, Z_bool, Z_list, Z_len, Z_all, Z_range, Z_sum, Z_zip⟩
  have C : CM M := ⟨⟨tm, PySem.W.mg_of X G u0⟩⟩
  have CGs : CG M := ⟨⟨tm2, PySem.W.mg_of X G u3⟩⟩
  have CR : CR M := ⟨rc, [.int 2, .int 3, .int 5, .int 7], PySem.W.mg_of X G u1, fun H => .inr ⟨_, _, rn, u2, rfl, rfl, Nat.le_of_lt (small1000 (n := 4) (by decide)), .cons ⟨t1, rfl⟩ (.cons ⟨t2, rfl⟩ (.cons ⟨t3, rfl⟩ (.cons ⟨t4, rfl⟩ .nil)))⟩, fun H => rps_ints [2, 3, 5, 7]⟩
  have a1 := ok_is_whole B F_is_whole
  have a2 := ok_check_round CR F_check_round a1
  have a3 := ok_is_row B F_is_row a1
  have a4 := ok_is_table B C F_is_table a3
  have a5 := ok_check_table F_check_table a4
  have a6 := ok_check_one F_check_one a2 a5
  have a8 := ok_unit_of B F_unit_of
  have a9 := ok_moved_of B F_moved_of
  have a10 := ok_behind_of F_behind_of a9
  have c1 := ok_back_of B F_back_of
  have c2 := ok_less_of B F_less_of
  have c3 := ok_cleared B F_cleared c1 c2
  have c4 := ok_rank_of B F_rank_of c3
  have j3 := ok_rankD F_rank a6 c4
  have j4 := ok_worth B Z_enumerate F_worth F_worth_of a6
  have g1 := ok_check_tables B Z_any C F_check_tables a2 a4 c4
  have g2 := ok_words_of B Z_str Z_enumerate CGs F_words_of a8 a10
  have w1 := ok_is_wholeD B F_is_whole
  have w2 := ok_is_rowD B F_is_row w1
  have w3 := ok_is_tableD B C F_is_table w2
  have x1 := bad_round (C0 := cE 0) erBadRound m_BadRound CR F_check_round w1
  have x2 := bad_table (C1 := cE 1) erBadTable m_BadTable F_check_table w3
  have x3 := bad_one F_check_one a2 x1 x2
  have x4 := bad_two (C6 := cE 6) B erUnlike m_Unlike F_check_two a6 a5 x3 x2
  have x5 := bad_tables (C1 := cE 1) (C6 := cE 6) (C7 := cE 7) B Z_any C erBadTable m_BadTable erUnlike m_Unlike erNotUndone m_NotUndone F_check_tables a2 x1 w3 a4 c4
  have y1 := bad_undone F_undone x3
  have y2 := bad_rank F_rank x3
  have y3 := bad_worth F_worth x3
  have y4 := bad_least_rule F_least_rule x3
  have y5 := bad_own_rule F_own_rule x3
  have y6 := bad_spanning F_spanning x3
  have y7 := bad_comes_round F_comes_round x3
  have y8 := bad_back F_back x3
  have y9a := bad_check_rows F_check_rows x1
  have y9 := bad_how_many F_how_many y9a
  have y9b := bad_check_many F_check_many y9a
  have y10 := bad_number_of F_number_of x3
  have y11 := bad_made F_made x5
  have z1 := bad_moved F_moved x3
  have z2 := bad_behind F_behind x4
  have z3 := bad_together F_together x4
  have z4 := bad_turned F_turned x3
  have z5 := bad_at_rule F_at_rule x3
  have z6 := bad_alike F_alike x4
  have z7 := bad_of_order F_of_order y9b
  have z8 := bad_word (C6 := cE 6) B erUnlike m_Unlike F_word x5 g1 g2 a5 x2
  have v1 := bad_table_by F_table_by y9b
  have b1 := ok_cell_at B F__law_cell_at
  have b2 := ok_draw F__law_draw
  have b3 := ok_value F__law_value b2
  have b4 := ok_due_of B F__law_due_of
  have b5 := ok_strange F__law_strange
  have b6 := ok_no_tables B b5 F__law_no_tables
  have r1 := ok_rounds_right (Ts := Ts) B F__law_kinds NI KO0 b4 b5 F__law_rounds_right TB__law_rounds_right hT__law_rounds_right hu__law_rounds_right y1 y2 y3 y4 y5 y6 y7 y8 y9 y10 y11 z1 z2 z3 z4 z5 z6 z7 z8 v1
  have r2 := ok_tables_right (Ts := Ts) B F__law_kinds NI KO1 b4 b6 F__law_tables_right TB__law_tables_right hT__law_tables_right hu__law_tables_right y1 y2 y3 y4 y5 y6 y7 y8 y10 y11 z1 z2 z3 z4 z5 z6 z8
  exact body_law10 (M := M) (Ts := Ts) B F__law_kinds NI KO6 b4 b1 b3 r1 r2 l48 c48 TB_law hT_law hu_law z2 z3 z6 y11 z8 j4 j3
end L3
open PySem PySem.W PyProof.Rows
set_option maxHeartbeats 0 in
theorem PySem.Challenge.cw_restturns_k10_refused_tables_holds : PySem.Challenge.rw_restturns_k10_refused_tables.Holds := by
  w_on; o_law; k_head; (case hw => w_witness2)
  k_fill
  refine L3.walkGT (l := PySem.Challenge.rw_restturns_k10_refused_tables) (n := 63) (k := 11) (x := "_law_script") rfl (by decide) rfl ⟨rfl, by decide, by decide⟩ (fun w h Y => PySem.W.km_in_of Y) ?F
  case F =>
    intro w mg fa h Y KX G hmg
    refine' L3.all_mk _ KX G hmg (PySem.W.km_tabs_of Y) ?a0 ?l0 ?c0 ?k0 ?a1 ?l1 ?c1 ?k1 ?a2 ?l2 ?c2 ?k2 ?a3 ?l3 ?c3 ?k3 ?a4 ?l4 ?c4 ?k4 ?a5 ?l5 ?c5 ?k5 ?a6 ?l6 ?c6 ?k6 ?a7 ?l7 ?c7 ?k7 ?a8 ?l8 ?c8 ?k8 ?a9 ?l9 ?c9 ?k9 ?a10 ?l10 ?c10 ?k10 ?a11 ?l11 ?c11 ?k11 ?a12 ?l12 ?c12 ?k12 ?a13 ?l13 ?c13 ?k13 ?a14 ?l14 ?c14 ?k14 ?a15 ?l15 ?c15 ?k15 ?a16 ?l16 ?c16 ?k16 ?a17 ?l17 ?c17 ?k17 ?a18 ?l18 ?c18 ?k18 ?a19 ?l19 ?c19 ?k19 ?a20 ?l20 ?c20 ?k20 ?a21 ?l21 ?c21 ?k21 ?a22 ?l22 ?c22 ?k22 ?a23 ?l23 ?c23 ?k23 ?a24 ?l24 ?c24 ?k24 ?a25 ?l25 ?c25 ?k25 ?a26 ?l26 ?c26 ?k26 ?a27 ?l27 ?c27 ?k27 ?a28 ?l28 ?c28 ?k28 ?a29 ?l29 ?c29 ?k29 ?a30 ?l30 ?c30 ?k30 ?a31 ?l31 ?c31 ?k31 ?a32 ?l32 ?c32 ?k32 ?a33 ?l33 ?c33 ?k33 ?a34 ?l34 ?c34 ?k34 ?a35 ?l35 ?c35 ?k35 ?a36 ?l36 ?c36 ?k36 ?a37 ?l37 ?c37 ?k37 ?a38 ?l38 ?c38 ?k38 ?a39 ?l39 ?c39 ?k39 ?a40 ?l40 ?c40 ?k40 ?a41 ?l41 ?c41 ?k41 ?a42 ?l42 ?c42 ?k42 ?a43 ?l43 ?c43 ?k43 ?a44 ?l44 ?c44 ?k44 ?a45 ?l45 ?c45 ?k45 ?a46 ?l46 ?c46 ?k46 ?a47 ?l47 ?c47 ?k47 ?a48 ?l48 ?c48 ?k48 ?z0 ?z1 ?z2 ?z3 ?z4 ?z5 ?z6 ?z7 ?z8 ?z9 ?z10 ?z11 ?z12 ?z13 ?z14 ?z15 ?hnX ?htkX ?gBadRound ?cxBadRound ?txBadRound ?gBadTable ?cxBadTable ?txBadTable ?gBadRow ?cxBadRow ?txBadRow ?gBadCount ?cxBadCount ?txBadCount ?gBadRule ?cxBadRule ?txBadRule ?gBadNumber ?cxBadNumber ?txBadNumber ?gUnlike ?cxUnlike ?txUnlike ?gNotUndone ?cxNotUndone ?txNotUndone ?gTooMany ?cxTooMany ?txTooMany ?gTurnError ?cxTurnError ?txTurnError ?xsT ?xdT ?xqBadRound ?xkBadRound ?xaBadRound ?xbBadRound ?xsBadRound ?xdBadRound ?xcBadRound ?xmBadRound ?xtBadRound ?xvBadRound ?sBadRound_BadTable ?nBadRound_BadTable ?sBadRound_BadRow ?nBadRound_BadRow ?sBadRound_BadCount ?nBadRound_BadCount ?sBadRound_BadRule ?nBadRound_BadRule ?sBadRound_BadNumber ?nBadRound_BadNumber ?sBadRound_Unlike ?nBadRound_Unlike ?sBadRound_NotUndone ?nBadRound_NotUndone ?sBadRound_TooMany ?nBadRound_TooMany ?xqBadTable ?xkBadTable ?xaBadTable ?xbBadTable ?xsBadTable ?xdBadTable ?xcBadTable ?xmBadTable ?xtBadTable ?xvBadTable ?sBadTable_BadRound ?nBadTable_BadRound ?sBadTable_BadRow ?nBadTable_BadRow ?sBadTable_BadCount ?nBadTable_BadCount ?sBadTable_BadRule ?nBadTable_BadRule ?sBadTable_BadNumber ?nBadTable_BadNumber ?sBadTable_Unlike ?nBadTable_Unlike ?sBadTable_NotUndone ?nBadTable_NotUndone ?sBadTable_TooMany ?nBadTable_TooMany ?xqUnlike ?xkUnlike ?xaUnlike ?xbUnlike ?xsUnlike ?xdUnlike ?xcUnlike ?xmUnlike ?xtUnlike ?xvUnlike ?sUnlike_BadRound ?nUnlike_BadRound ?sUnlike_BadTable ?nUnlike_BadTable ?sUnlike_BadRow ?nUnlike_BadRow ?sUnlike_BadCount ?nUnlike_BadCount ?sUnlike_BadRule ?nUnlike_BadRule ?sUnlike_BadNumber ?nUnlike_BadNumber ?sUnlike_NotUndone ?nUnlike_NotUndone ?sUnlike_TooMany ?nUnlike_TooMany ?xqNotUndone ?xkNotUndone ?xaNotUndone ?xbNotUndone ?xsNotUndone ?xdNotUndone ?xcNotUndone ?xmNotUndone ?xtNotUndone ?xvNotUndone ?sNotUndone_BadRound ?nNotUndone_BadRound ?sNotUndone_BadTable ?nNotUndone_BadTable ?sNotUndone_BadRow ?nNotUndone_BadRow ?sNotUndone_BadCount ?nNotUndone_BadCount ?sNotUndone_BadRule ?nNotUndone_BadRule ?sNotUndone_BadNumber ?nNotUndone_BadNumber ?sNotUndone_Unlike ?nNotUndone_Unlike ?sNotUndone_TooMany ?nNotUndone_TooMany ?lc_law_rounds_right ?vp_law_rounds_right ?rc_law_rounds_right ?mP_law_rounds_right ?np_law_rounds_right ?lc_law_tables_right ?vp_law_tables_right ?rc_law_tables_right ?mP_law_tables_right ?np_law_tables_right ?lclaw ?vplaw ?rclaw ?mPlaw ?nplaw ?dP_law_rounds_right__law_tables_right ?dP_law_rounds_right_law ?dP_law_tables_right_law ?u0 ?u3 ?u1 ?u2
    (case a0 => k_is); (case l0 => k_is); (case c0 => k_is); (case k0 => k_is); (case a1 => k_is); (case l1 => k_is); (case c1 => k_is); (case k1 => k_is)
    (case a2 => k_is); (case l2 => k_is); (case c2 => k_is); (case k2 => k_is); (case a3 => k_is); (case l3 => k_is); (case c3 => k_is); (case k3 => k_is)
    (case a4 => k_is); (case l4 => k_is); (case c4 => k_is); (case k4 => k_is); (case a5 => k_is); (case l5 => k_is); (case c5 => k_is); (case k5 => k_is)
    (case a6 => k_is); (case l6 => k_is); (case c6 => k_is); (case k6 => k_is); (case a7 => k_is); (case l7 => k_is); (case c7 => k_is); (case k7 => k_is)
    (case a8 => k_is); (case l8 => k_is); (case c8 => k_is); (case k8 => k_is); (case a9 => k_is); (case l9 => k_is); (case c9 => k_is); (case k9 => k_is)
    (case a10 => k_is); (case l10 => k_is); (case c10 => k_is); (case k10 => k_is); (case a11 => k_is); (case l11 => k_is); (case c11 => k_is); (case k11 => k_is)
    (case a12 => k_is); (case l12 => k_is); (case c12 => k_is); (case k12 => k_is); (case a13 => k_is); (case l13 => k_is); (case c13 => k_is); (case k13 => k_is)
    (case a14 => k_is); (case l14 => k_is); (case c14 => k_is); (case k14 => k_is); (case a15 => k_is); (case l15 => k_is); (case c15 => k_is); (case k15 => k_is)
    (case a16 => k_is); (case l16 => k_is); (case c16 => k_is); (case k16 => k_is); (case a17 => k_is); (case l17 => k_is); (case c17 => k_is); (case k17 => k_is)
    (case a18 => k_is); (case l18 => k_is); (case c18 => k_is); (case k18 => k_is); (case a19 => k_is); (case l19 => k_is); (case c19 => k_is); (case k19 => k_is)
    (case a20 => k_is); (case l20 => k_is); (case c20 => k_is); (case k20 => k_is); (case a21 => k_is); (case l21 => k_is); (case c21 => k_is); (case k21 => k_is)
    (case a22 => k_is); (case l22 => k_is); (case c22 => k_is); (case k22 => k_is); (case a23 => k_is); (case l23 => k_is); (case c23 => k_is); (case k23 => k_is)
    (case a24 => k_is); (case l24 => k_is); (case c24 => k_is); (case k24 => k_is); (case a25 => k_is); (case l25 => k_is); (case c25 => k_is); (case k25 => k_is)
    (case a26 => k_is); (case l26 => k_is); (case c26 => k_is); (case k26 => k_is); (case a27 => k_is); (case l27 => k_is); (case c27 => k_is); (case k27 => k_is)
    (case a28 => k_is); (case l28 => k_is); (case c28 => k_is); (case k28 => k_is); (case a29 => k_is); (case l29 => k_is); (case c29 => k_is); (case k29 => k_is)
    (case a30 => k_is); (case l30 => k_is); (case c30 => k_is); (case k30 => k_is); (case a31 => k_is); (case l31 => k_is); (case c31 => k_is); (case k31 => k_is)
    (case a32 => k_is); (case l32 => k_is); (case c32 => k_is); (case k32 => k_is); (case a33 => k_is); (case l33 => k_is); (case c33 => k_is); (case k33 => k_is)
    (case a34 => k_is); (case l34 => k_is); (case c34 => k_is); (case k34 => k_is); (case a35 => k_is); (case l35 => k_is); (case c35 => k_is); (case k35 => k_is)
    (case a36 => k_is); (case l36 => k_is); (case c36 => k_is); (case k36 => k_is); (case a37 => k_is); (case l37 => k_is); (case c37 => k_is); (case k37 => k_is)
    (case a38 => k_is); (case l38 => k_is); (case c38 => k_is); (case k38 => k_is); (case a39 => k_is); (case l39 => k_is); (case c39 => k_is); (case k39 => k_is)
    (case a40 => k_is); (case l40 => k_is); (case c40 => k_is); (case k40 => k_is); (case a41 => k_is); (case l41 => k_is); (case c41 => k_is); (case k41 => k_is)
    (case a42 => k_is); (case l42 => k_is); (case c42 => k_is); (case k42 => k_is); (case a43 => k_is); (case l43 => k_is); (case c43 => k_is); (case k43 => k_is)
    (case a44 => k_is); (case l44 => k_is); (case c44 => k_is); (case k44 => k_is); (case a45 => k_is); (case l45 => k_is); (case c45 => k_is); (case k45 => k_is)
    (case a46 => k_is); (case l46 => k_is); (case c46 => k_is); (case k46 => k_is); (case a47 => k_is); (case l47 => k_is); (case c47 => k_is); (case k47 => k_is)
    (case a48 => k_is); (case l48 => k_is); (case c48 => k_is); (case k48 => k_is); (case z0 => k_is); (case z1 => k_is); (case z2 => k_is); (case z3 => k_is)
    (case z4 => k_is); (case z5 => k_is); (case z6 => k_is); (case z7 => k_is); (case z8 => k_is); (case z9 => k_is); (case z10 => k_is); (case z11 => k_is)
    (case z12 => k_is); (case z13 => k_is); (case z14 => k_is); (case z15 => k_is); (case hnX => k_is); (case htkX => k_is); (case gBadRound => k_is); (case cxBadRound => first | k_is | rfl | decide +kernel)
    (case txBadRound => k_is); (case gBadTable => k_is); (case cxBadTable => first | k_is | rfl | decide +kernel); (case txBadTable => k_is); (case gBadRow => k_is); (case cxBadRow => first | k_is | rfl | decide +kernel); (case txBadRow => k_is); (case gBadCount => k_is)
    (case cxBadCount => first | k_is | rfl | decide +kernel); (case txBadCount => k_is); (case gBadRule => k_is); (case cxBadRule => first | k_is | rfl | decide +kernel); (case txBadRule => k_is); (case gBadNumber => k_is); (case cxBadNumber => first | k_is | rfl | decide +kernel); (case txBadNumber => k_is)
    (case gUnlike => k_is); (case cxUnlike => first | k_is | rfl | decide +kernel); (case txUnlike => k_is); (case gNotUndone => k_is); (case cxNotUndone => first | k_is | rfl | decide +kernel); (case txNotUndone => k_is); (case gTooMany => k_is); (case cxTooMany => first | k_is | rfl | decide +kernel)
    (case txTooMany => k_is); (case gTurnError => k_is); (case cxTurnError => first | k_is | rfl | decide +kernel); (case txTurnError => k_is); (case xsT => k_is); (case xdT => k_is); (case xqBadRound => k_exc); (case xkBadRound => k_is)
    (case xaBadRound => k_is); (case xbBadRound => k_is); (case xsBadRound => k_is); (case xdBadRound => k_is); (case xcBadRound => k_is); (case xmBadRound => k_is); (case xtBadRound => k_is); (case xvBadRound => k_is)
    (case sBadRound_BadTable => k_is); (case nBadRound_BadTable => first | rfl | decide +kernel | k_is); (case sBadRound_BadRow => k_is); (case nBadRound_BadRow => first | rfl | decide +kernel | k_is); (case sBadRound_BadCount => k_is); (case nBadRound_BadCount => first | rfl | decide +kernel | k_is); (case sBadRound_BadRule => k_is); (case nBadRound_BadRule => first | rfl | decide +kernel | k_is)
    (case sBadRound_BadNumber => k_is); (case nBadRound_BadNumber => first | rfl | decide +kernel | k_is); (case sBadRound_Unlike => k_is); (case nBadRound_Unlike => first | rfl | decide +kernel | k_is); (case sBadRound_NotUndone => k_is); (case nBadRound_NotUndone => first | rfl | decide +kernel | k_is); (case sBadRound_TooMany => k_is); (case nBadRound_TooMany => first | rfl | decide +kernel | k_is)
    (case xqBadTable => k_exc); (case xkBadTable => k_is); (case xaBadTable => k_is); (case xbBadTable => k_is); (case xsBadTable => k_is); (case xdBadTable => k_is); (case xcBadTable => k_is); (case xmBadTable => k_is)
    (case xtBadTable => k_is); (case xvBadTable => k_is); (case sBadTable_BadRound => k_is); (case nBadTable_BadRound => first | rfl | decide +kernel | k_is); (case sBadTable_BadRow => k_is); (case nBadTable_BadRow => first | rfl | decide +kernel | k_is); (case sBadTable_BadCount => k_is); (case nBadTable_BadCount => first | rfl | decide +kernel | k_is)
    (case sBadTable_BadRule => k_is); (case nBadTable_BadRule => first | rfl | decide +kernel | k_is); (case sBadTable_BadNumber => k_is); (case nBadTable_BadNumber => first | rfl | decide +kernel | k_is); (case sBadTable_Unlike => k_is); (case nBadTable_Unlike => first | rfl | decide +kernel | k_is); (case sBadTable_NotUndone => k_is); (case nBadTable_NotUndone => first | rfl | decide +kernel | k_is)
    (case sBadTable_TooMany => k_is); (case nBadTable_TooMany => first | rfl | decide +kernel | k_is); (case xqUnlike => k_exc); (case xkUnlike => k_is); (case xaUnlike => k_is); (case xbUnlike => k_is); (case xsUnlike => k_is); (case xdUnlike => k_is)
    (case xcUnlike => k_is); (case xmUnlike => k_is); (case xtUnlike => k_is); (case xvUnlike => k_is); (case sUnlike_BadRound => k_is); (case nUnlike_BadRound => first | rfl | decide +kernel | k_is); (case sUnlike_BadTable => k_is); (case nUnlike_BadTable => first | rfl | decide +kernel | k_is)
    (case sUnlike_BadRow => k_is); (case nUnlike_BadRow => first | rfl | decide +kernel | k_is); (case sUnlike_BadCount => k_is); (case nUnlike_BadCount => first | rfl | decide +kernel | k_is); (case sUnlike_BadRule => k_is); (case nUnlike_BadRule => first | rfl | decide +kernel | k_is); (case sUnlike_BadNumber => k_is); (case nUnlike_BadNumber => first | rfl | decide +kernel | k_is)
    (case sUnlike_NotUndone => k_is); (case nUnlike_NotUndone => first | rfl | decide +kernel | k_is); (case sUnlike_TooMany => k_is); (case nUnlike_TooMany => first | rfl | decide +kernel | k_is); (case xqNotUndone => k_exc); (case xkNotUndone => k_is); (case xaNotUndone => k_is); (case xbNotUndone => k_is)
    (case xsNotUndone => k_is); (case xdNotUndone => k_is); (case xcNotUndone => k_is); (case xmNotUndone => k_is); (case xtNotUndone => k_is); (case xvNotUndone => k_is); (case sNotUndone_BadRound => k_is); (case nNotUndone_BadRound => first | rfl | decide +kernel | k_is)
    (case sNotUndone_BadTable => k_is); (case nNotUndone_BadTable => first | rfl | decide +kernel | k_is); (case sNotUndone_BadRow => k_is); (case nNotUndone_BadRow => first | rfl | decide +kernel | k_is); (case sNotUndone_BadCount => k_is); (case nNotUndone_BadCount => first | rfl | decide +kernel | k_is); (case sNotUndone_BadRule => k_is); (case nNotUndone_BadRule => first | rfl | decide +kernel | k_is)
    (case sNotUndone_BadNumber => k_is); (case nNotUndone_BadNumber => first | rfl | decide +kernel | k_is); (case sNotUndone_Unlike => k_is); (case nNotUndone_Unlike => first | rfl | decide +kernel | k_is); (case sNotUndone_TooMany => k_is); (case nNotUndone_TooMany => first | rfl | decide +kernel | k_is); (case lc_law_rounds_right => k_is); (case vp_law_rounds_right => rfl)
    (case rc_law_rounds_right => first | kernel_rfl | rfl | decide +kernel); (case mP_law_rounds_right => first | k_mem | decide | simp); (case np_law_rounds_right => first | kernel_rfl | rfl | decide +kernel); (case lc_law_tables_right => k_is); (case vp_law_tables_right => rfl); (case rc_law_tables_right => first | kernel_rfl | rfl | decide +kernel); (case mP_law_tables_right => first | k_mem | decide | simp); (case np_law_tables_right => first | kernel_rfl | rfl | decide +kernel)
    (case lclaw => k_is); (case vplaw => rfl); (case rclaw => first | kernel_rfl | rfl | decide +kernel); (case mPlaw => first | k_mem | decide | simp); (case nplaw => first | kernel_rfl | rfl | decide +kernel); (case dP_law_rounds_right__law_tables_right => decide); (case dP_law_rounds_right_law => decide); (case dP_law_tables_right_law => decide)
    (case u0 => k_is); (case u3 => k_is); (case u1 => k_is); (case u2 => k_is)
