import PyProof.Rows.All
import Wide.All
import OpenK.AllK
import Wide.FinOn
import HandS.ForMost
import HandS.IsInst
import HandS.Wide
import HandS.Walk
import PyProof.FactsAll.dict
import HandS.TupAny
import KE.LtData
import PySem.Challenge.RW_rulestable_k02_rows_of_signs
set_option Elab.async false
set_option linter.all false
set_option maxRecDepth 100000
set_option maxHeartbeats 4000000
namespace G
open PySem L2

/-! ### heaps that grow -/
def Ex (H H' : Hp) : Prop := ∀ a o, H a = some o → H' a = some o
theorem Ex.refl (H : Hp) : Ex H H := fun _ _ h => h
theorem Ex.trans {H H1 H2 : Hp} (a : Ex H H1) (b : Ex H1 H2) : Ex H H2 := fun x o h => b x o (a x o h)
theorem Ex.new {H : Hp} {p : Addr} {o : HO} (h : H p = none) : Ex H (upd H p o) := fun a u e => by
  rw [upd_ne (ne_of_none e h)]
  exact e
theorem Ex.free {H H' : Hp} {p : Addr} (e : Ex H H') (h : H' p = none) : H p = none := by
  cases h1 : H p with
  | none => rfl
  | some o => rw [e p o h1] at h; cases h
theorem ex_rd {H H' : Hp} {a : Addr} {u : HO} (e : Ex H H') (h : Rd H a u) : Rd H' a u := by
  rcases h with h | ⟨o, h⟩
  · exact Or.inl (e a _ h)
  · exact Or.inr ⟨o, e a _ h⟩
theorem ex_l {K : PySem.W.Frag} {H H' : Hp} {a : Addr} {xs : List V} (e : Ex H H') (h : SqL K H a xs) : SqL K H' a xs := by
  rcases h with h | h
  · exact Or.inl (ex_rd e h)
  · exact Or.inr h
theorem ex_t {K : PySem.W.Frag} {H H' : Hp} {a : Addr} {xs : List V} (e : Ex H H') (h : SqT K H a xs) : SqT K H' a xs := by
  rcases h with h | h
  · exact Or.inl (ex_rd e h)
  · exact Or.inr h

/-- I: the part of the heap H that never changes. From (I, H) to (I', H'): nothing but the objects at m has changed -/
structure Gr (m : List Addr) (I H I' H' : Hp) : Prop where
  i : Ex I I'
  ih : Ex I' H'
  h : ∀ a o, a ∉ m → H a = some o → H' a = some o
  th : ∀ a, H a ≠ none → H' a ≠ none
  fr : ∀ a, H a ≠ none → I' a = I a
theorem Gr.refl {m : List Addr} {I H : Hp} (e : Ex I H) : Gr m I H I H := ⟨Ex.refl I, e, fun _ _ _ h => h, fun _ h => h, fun _ _ => rfl⟩
theorem Gr.trans {m : List Addr} {I H I1 H1 I2 H2 : Hp} (a : Gr m I H I1 H1) (b : Gr m I1 H1 I2 H2) : Gr m I H I2 H2 :=
  ⟨a.i.trans b.i, b.ih, fun x o hx h => b.h x o hx (a.h x o hx h), fun x h => b.th x (a.th x h), fun x h => (b.fr x (a.th x h)).trans (a.fr x h)⟩
theorem Gr.weak {m : List Addr} {I H I1 H1 : Hp} (a : Gr [] I H I1 H1) : Gr m I H I1 H1 := ⟨a.i, a.ih, fun x o _ h => a.h x o (by simp) h, a.th, a.fr⟩
theorem Gr.ex {I H I1 H1 : Hp} (a : Gr [] I H I1 H1) : Ex H H1 := fun x o h => a.h x o (by simp) h
theorem Gr.new {m : List Addr} {I H : Hp} {p : Addr} {o : HO} (e : Ex I H) (h : H p = none) : Gr m I H (upd I p o) (upd H p o) where
  i := Ex.new (e.free h)
  ih := fun a u q => by
    by_cases z : a = p
    · subst z; rw [upd_same] at q ⊢; exact q
    · rw [upd_ne z] at q ⊢; exact e a u q
  h := fun a u _ q => Ex.new h a u q
  th := fun a q => by
    cases e1 : H a with
    | none => exact absurd e1 q
    | some u => rw [Ex.new h a u e1]; exact nofun
  fr := fun a q => by
    have z : a ≠ p := fun z => q (z ▸ h)
    rw [upd_ne z]
/-- a new object that is not among what stays -/
theorem Gr.junk {m : List Addr} {I H : Hp} {p : Addr} {o : HO} (e : Ex I H) (h : H p = none) : Gr m I H I (upd H p o) where
  i := Ex.refl I
  ih := e.trans (Ex.new h)
  h := fun a u _ q => Ex.new h a u q
  th := fun a q => by
    cases e1 : H a with
    | none => exact absurd e1 q
    | some u => rw [Ex.new h a u e1]; exact nofun
  fr := fun _ _ => rfl
theorem Gr.none_i {m : List Addr} {I H I1 H1 : Hp} (g : Gr m I H I1 H1) {a : Addr} (hi : I a = none) (hh : H a ≠ none) : I1 a = none := (g.fr a hh).trans hi

/-! ### data -/
inductive D where
  | non | bl (b : Bool) | int (i : Int) | str (s : Str) | lst (ds : List D) | tup (ds : List D)
  | dic (ks : List Key) (ds : List D) | obj (C : Addr) (ns : List Str) (ds : List D)
  | fl (ds : List D) | ty (n : String) | ref (a : Addr)
mutual
inductive Rp (K : PySem.W.Frag) (I : Hp) : V → D → Prop
  | non : Rp K I .non .non
  | bl (b : Bool) : Rp K I (.bl b) (.bl b)
  | int (i : Int) : Rp K I (.int i) (.int i)
  | str (x : Str) : Rp K I (.str x) (.str x)
  | lst {a : Addr} {xs : List V} {ds : List D} : I a = some (.lst xs) → Rps K I xs ds → Rp K I (.ref a) (.lst ds)
  | fl {a : Addr} {xs : List V} {ds : List D} : SqL K I a xs → Rps K I xs ds → Rp K I (.ref a) (.fl ds)
  | ty (n : String) : Rp K I (.ty n) (.ty n)
  | ref (a : Addr) : Rp K I (.ref a) (.ref a)
  | tup {a : Addr} {xs : List V} {ds : List D} : SqT K I a xs → Rps K I xs ds → Rp K I (.ref a) (.tup ds)
  | dic {a : Addr} {ks : List Key} {xs : List V} {ds : List D} : I a = some (.dK (ks.zip xs)) → ks.length = xs.length → Rps K I xs ds → Rp K I (.ref a) (.dic ks ds)
  | obj {a C dx : Addr} {ns : List Str} {xs : List V} {ds : List D} : I a = some (.ins C dx (ns.zip xs)) → ns.length = xs.length → Rps K I xs ds → Rp K I (.ref a) (.obj C ns ds)
inductive Rps (K : PySem.W.Frag) (I : Hp) : List V → List D → Prop
  | nil : Rps K I [] []
  | cons {v : V} {vs : List V} {d : D} {ds : List D} : Rp K I v d → Rps K I vs ds → Rps K I (v :: vs) (d :: ds)
end
section
variable {K : PySem.W.Frag} {I I' : Hp}
mutual
theorem Rp.mono (e : Ex I I') : ∀ {v : V} {d : D}, Rp K I v d → Rp K I' v d
  | _, _, .non => .non
  | _, _, .bl b => .bl b
  | _, _, .int i => .int i
  | _, _, .str x => .str x
  | _, _, .lst h r => .lst (e _ _ h) (Rps.mono e r)
  | _, _, .fl h r => .fl (ex_l e h) (Rps.mono e r)
  | _, _, .ty n => .ty n
  | _, _, .ref a => .ref a
  | _, _, .tup h r => .tup (ex_t e h) (Rps.mono e r)
  | _, _, .dic h l r => .dic (e _ _ h) l (Rps.mono e r)
  | _, _, .obj h l r => .obj (e _ _ h) l (Rps.mono e r)
theorem Rps.mono (e : Ex I I') : ∀ {vs : List V} {ds : List D}, Rps K I vs ds → Rps K I' vs ds
  | _, _, .nil => .nil
  | _, _, .cons h r => .cons (Rp.mono e h) (Rps.mono e r)
end
theorem Rps.length : ∀ {vs : List V} {ds : List D}, Rps K I vs ds → vs.length = ds.length
  | _, _, .nil => rfl
  | _, _, .cons _ r => congrArg (· + 1) (Rps.length r)
theorem Rps.append : ∀ {vs ws : List V} {ds es : List D}, Rps K I vs ds → Rps K I ws es → Rps K I (vs ++ ws) (ds ++ es)
  | _, _, _, _, .nil, s => s
  | _, _, _, _, .cons h r, s => .cons h (Rps.append r s)
theorem Rps.get : ∀ {vs : List V} {ds : List D} {i : Nat} {d : D}, Rps K I vs ds → ds[i]? = some d → ∃ v, vs[i]? = some v ∧ Rp K I v d
  | _, _, _, _, .nil, e => by simp at e
  | _, _, 0, _, .cons h _, e => by simp at e; subst e; exact ⟨_, rfl, h⟩
  | _, _, i + 1, _, .cons _ r, e => by
    obtain ⟨v, h1, h2⟩ := Rps.get (i := i) r (by simpa using e)
    exact ⟨v, by simpa using h1, h2⟩
theorem Rps.getV : ∀ {vs : List V} {ds : List D} {i : Nat} {v : V}, Rps K I vs ds → vs[i]? = some v → ∃ d, ds[i]? = some d ∧ Rp K I v d
  | _, _, _, _, .nil, e => by simp at e
  | _, _, 0, _, .cons h _, e => by simp at e; subst e; exact ⟨_, rfl, h⟩
  | _, _, i + 1, _, .cons _ r, e => by
    obtain ⟨v, h1, h2⟩ := Rps.getV (i := i) r (by simpa using e)
    exact ⟨v, by simpa using h1, h2⟩
theorem Rps.take : ∀ {vs : List V} {ds : List D} (n : Nat), Rps K I vs ds → Rps K I (vs.take n) (ds.take n)
  | _, _, 0, _ => .nil
  | _, _, _ + 1, .nil => .nil
  | _, _, n + 1, .cons h r => .cons h (Rps.take n r)
theorem Rps.drop : ∀ {vs : List V} {ds : List D} (n : Nat), Rps K I vs ds → Rps K I (vs.drop n) (ds.drop n)
  | _, _, 0, r => r
  | _, _, _ + 1, .nil => .nil
  | _, _, n + 1, .cons _ r => Rps.drop n r
theorem Rps.set {v : V} {d : D} (h : Rp K I v d) : ∀ {vs : List V} {ds : List D} (n : Nat), Rps K I vs ds → Rps K I (vs.set n v) (ds.set n d)
  | _, _, _, .nil => .nil
  | _, _, 0, .cons _ r => .cons h r
  | _, _, n + 1, .cons q r => .cons q (Rps.set h n r)
theorem Rps.one {v : V} {d : D} (h : Rp K I v d) : Rps K I [v] [d] := .cons h .nil
/-- flat data: what it is does not lean on the heap -/
def flat : D → Bool
  | .non => true
  | .bl _ => true
  | .int _ => true
  | .str _ => true
  | .ty _ => true
  | .ref _ => true
  | _ => false
theorem Rp.flat {v : V} {d : D} (h : Rp K I v d) (f : flat d = true) : Rp K I' v d := by
  cases h <;> first | exact .non | exact .bl _ | exact .int _ | exact .str _ | exact .ty _ | exact .ref _ | (cases f)
/-- a list's items -/
inductive LD : D → List D → Prop
  | lst {ds : List D} : LD (.lst ds) ds
  | fl {ds : List D} : LD (.fl ds) ds
theorem Rp.l {v : V} {d : D} {ds : List D} (r : Rp K I v d) (h : LD d ds) : ∃ a vs, v = .ref a ∧ SqL K I a vs ∧ Rps K I vs ds := by
  cases h with
  | lst => cases r with | lst a b => exact ⟨_, _, rfl, .inl (.inl a), b⟩
  | fl => cases r with | fl a b => exact ⟨_, _, rfl, a, b⟩
theorem rps_ints : ∀ {vs : List V} {ns : List Int}, Rps K I vs (ns.map D.int) → vs = ns.map V.int
  | _, [], .nil => rfl
  | _, n :: ns, .cons (.int _) r => congrArg (V.int n :: ·) (rps_ints r)
theorem rps_of_ints : ∀ {ns : List Int}, Rps K I (ns.map V.int) (ns.map D.int)
  | [] => .nil
  | n :: ns => .cons (.int n) rps_of_ints
theorem rps_strs : ∀ {vs : List V} {ns : List Str}, Rps K I vs (ns.map D.str) → vs = ns.map V.str
  | _, [], .nil => rfl
  | _, n :: ns, .cons (.str _) r => congrArg (V.str n :: ·) (rps_strs r)
theorem rps_bls : ∀ {vs : List V} {ns : List Bool}, Rps K I vs (ns.map D.bl) → vs = ns.map V.bl
  | _, [], .nil => rfl
  | _, n :: ns, .cons (.bl _) r => congrArg (V.bl n :: ·) (rps_bls r)
end

/-! ### the slots: nothing known, an immutable value, an object of the def's own that may change -/
inductive SV where
  | im (d : D) | mu (d : D)
abbrev Sl := List (Option SV)
inductive MRp (K : PySem.W.Frag) (I : Hp) : HO → D → Prop
  | lst {vs : List V} {ds : List D} (h : Rps K I vs ds) : MRp K I (.lst vs) (.lst ds)
  | dic {ks : List Key} {vs : List V} {ds : List D} (l : ks.length = vs.length) (h : Rps K I vs ds) : MRp K I (.dK (ks.zip vs)) (.dic ks ds)
  | ins {C dx : Addr} {ns : List Str} {vs : List V} {ds : List D} (l : ns.length = vs.length) (h : Rps K I vs ds) : MRp K I (.ins C dx (ns.zip vs)) (.obj C ns ds)
theorem MRp.mono {K : PySem.W.Frag} {I I' : Hp} (e : Ex I I') {o : HO} {d : D} (h : MRp K I o d) : MRp K I' o d := by
  cases h with
  | lst h => exact .lst (h.mono e)
  | dic l h => exact .dic l (h.mono e)
  | ins l h => exact .ins l (h.mono e)
/-- what the slots hold -/
def SlOk (K : PySem.W.Frag) (I : Hp) (σ : St) (H : Hp) (as : Nat → Addr) (i : Nat) : SV → Prop
  | .im d => ∃ v, σ[i]? = some (some v) ∧ Rp K I v d
  | .mu d => σ[i]? = some (some (.ref (as i))) ∧ I (as i) = none ∧ ∃ o, H (as i) = some o ∧ MRp K I o d
structure Lo (K : PySem.W.Frag) (I : Hp) (σ : St) (H : Hp) (as : Nat → Addr) (Γ : Sl) : Prop where
  at_ : ∀ i s, Γ[i]? = some (some s) → SlOk K I σ H as i s
  ne : ∀ i j d e, Γ[i]? = some (some (.mu d)) → Γ[j]? = some (some (.mu e)) → i ≠ j → as i ≠ as j
  len : σ.length = Γ.length
section
variable {K : PySem.W.Frag} {I I' H H' : Hp} {σ : St} {as : Nat → Addr} {Γ : Sl}
theorem SlOk.mono (g : Gr [] I H I' H') {i : Nat} : ∀ {s : SV}, SlOk K I σ H as i s → SlOk K I' σ H' as i s
  | .im _, ⟨v, h, r⟩ => ⟨v, h, r.mono g.i⟩
  | .mu _, ⟨h, n, o, ho, r⟩ => ⟨h, g.none_i n (by rw [ho]; exact nofun), o, g.ex _ _ ho, r.mono g.i⟩
theorem Lo.mono (g : Gr [] I H I' H') (l : Lo K I σ H as Γ) : Lo K I' σ H' as Γ := ⟨fun i s h => (l.at_ i s h).mono g, l.ne, l.len⟩
end

/-! ### judgements over readings -/
section
variable (K : PySem.W.Frag)
/-- te gives (a value of) d -/
def E (Γ : Sl) (te : TE) (d : D) : Prop := ∀ (I : Hp) (σ : St) (H : Hp) (as : Nat → Addr), Ex I H → Lo K I σ H as Γ → ∀ Q : VK, (∀ I' H' v, Gr [] I H I' H' → Rp K I' v d → Q v H') → te σ H Q
/-- te gives a list of ds; the list itself may be one that changes -/
def C (Γ : Sl) (te : TE) (ds : List D) : Prop := ∀ (I : Hp) (σ : St) (H : Hp) (as : Nat → Addr), Ex I H → Lo K I σ H as Γ → ∀ Q : VK, (∀ I' H' a vs, Gr [] I H I' H' → SqL K H' a vs → Rps K I' vs ds → Q (.ref a) H') → te σ H Q
def EA (Γ : Sl) (ta : TA) (ds : List D) : Prop := ∀ (I : Hp) (σ : St) (H : Hp) (as : Nat → Addr), Ex I H → Lo K I σ H as Γ → ∀ Q : List V → Hp → Prop, (∀ I' H' vs, Gr [] I H I' H' → Rps K I' vs ds → Q vs H') → ta σ H Q
def T (Γ : Sl) (tt : TT) (b : Bool) : Prop := ∀ (I : Hp) (σ : St) (H : Hp) (as : Nat → Addr), Ex I H → Lo K I σ H as Γ → ∀ Q : Bool → Hp → Prop, (∀ I' H', Gr [] I H I' H' → Q b H') → tt σ H Q
def EO (Γ : Sl) (to : TO) (o : Option Int) : Prop := ∀ (I : Hp) (σ : St) (H : Hp) (as : Nat → Addr), Ex I H → Lo K I σ H as Γ → ∀ Q : Option Int → Hp → Prop, (∀ I' H', Gr [] I H I' H' → Q o H') → to σ H Q
/-- an operation on values -/
def Bin (r : R2) (x y d : D) : Prop := ∀ (I H : Hp) (u v : V), Ex I H → Rp K I u x → Rp K I v y → ∀ Q : VK, (∀ I' H' v, Gr [] I H I' H' → Rp K I' v d → Q v H') → r u v H Q
def Un1 (r : V → Hp → VK → Prop) (x d : D) : Prop := ∀ (I H : Hp) (u : V), Ex I H → Rp K I u x → ∀ Q : VK, (∀ I' H' v, Gr [] I H I' H' → Rp K I' v d → Q v H') → r u H Q
def Ca (r : List V → Hp → VK → Prop) (xs : List D) (d : D) : Prop := ∀ (I H : Hp) (us : List V), Ex I H → Rps K I us xs → ∀ Q : VK, (∀ I' H' v, Gr [] I H I' H' → Rp K I' v d → Q v H') → r us H Q
end
section
variable {K : PySem.W.Frag} {Γ : Sl} {te ta tb : TE} {d x y : D} {ds : List D}
theorem E.c (h : E K Γ te d) (hl : LD d ds) : C K Γ te ds := fun I σ H as e l Q q => h I σ H as e l Q fun I' H' v g r => by
  obtain ⟨a, vs, rfl, hs, hr⟩ := r.l hl
  exact q I' H' _ _ g (ex_l g.ih hs) hr
theorem e_var {i : Nat} (h : Γ[i]? = some (some (.im d))) : E K Γ (tVar i) d := fun I σ H as e l Q q => by
  obtain ⟨v, hv, r⟩ := l.at_ i _ h
  exact ⟨v, hv, q I H v (Gr.refl e) r⟩
theorem c_var {i : Nat} (h : Γ[i]? = some (some (.mu (.lst ds)))) : C K Γ (tVar i) ds := fun I σ H as e l Q q => by
  obtain ⟨hv, hn, o, ho, r⟩ := l.at_ i _ h
  cases r with
  | lst r => exact ⟨_, hv, q I H _ _ (Gr.refl e) (.inl (.inl ho)) r⟩
theorem e_int {i : Int} : E K Γ (tC (.int i)) (.int i) := fun I σ H as e _ Q q => q I H _ (Gr.refl e) (.int i)
theorem e_str {i : Str} : E K Γ (tC (.str i)) (.str i) := fun I σ H as e _ Q q => q I H _ (Gr.refl e) (.str i)
theorem e_bl {i : Bool} : E K Γ (tC (.bl i)) (.bl i) := fun I σ H as e _ Q q => q I H _ (Gr.refl e) (.bl i)
theorem e_non : E K Γ (tC .non) .non := fun I σ H as e _ Q q => q I H _ (Gr.refl e) .non
theorem e_op {r : R2} (ha : E K Γ ta x) (hb : E K Γ tb y) (hr : Bin K r x y d) : E K Γ (tOp r ta tb) d := fun I σ H as e l Q q =>
  ha I σ H as e l _ fun I1 H1 v g1 r1 => hb I1 σ H1 as g1.ih (l.mono g1) _ fun I2 H2 w g2 r2 => hr I2 H2 v w g2.ih (r1.mono g2.i) r2 Q fun I3 H3 z g3 r3 => q I3 H3 z ((g1.trans g2).trans g3) r3
theorem e_un {r : V → Hp → VK → Prop} (ha : E K Γ ta x) (hr : Un1 K r x d) : E K Γ (tUn r ta) d := fun I σ H as e l Q q =>
  ha I σ H as e l _ fun I1 H1 v g1 r1 => hr I1 H1 v g1.ih r1 Q fun I3 H3 z g3 r3 => q I3 H3 z (g1.trans g3) r3
theorem ea_nil : EA K Γ tNil [] := fun I σ H as e _ Q q => q I H _ (Gr.refl e) .nil
theorem ea_cons {tr : TA} (ha : E K Γ ta x) (hr : EA K Γ tr ds) : EA K Γ (tCons ta tr) (x :: ds) := fun I σ H as e l Q q =>
  ha I σ H as e l _ fun I1 H1 v g1 r1 => hr I1 σ H1 as g1.ih (l.mono g1) _ fun I2 H2 vs g2 r2 => q I2 H2 _ (g1.trans g2) (.cons (r1.mono g2.i) r2)
theorem e_cb {r : List V → Hp → VK → Prop} {ta : TA} (ha : EA K Γ ta ds) (hr : Ca K r ds d) : E K Γ (tCB r ta) d := fun I σ H as e l Q q =>
  ha I σ H as e l _ fun I1 H1 v g1 r1 => hr I1 H1 v g1.ih r1 Q fun I3 H3 z g3 r3 => q I3 H3 z (g1.trans g3) r3
theorem e_tup {ta : TA} (ha : EA K Γ ta ds) (hl : ds.length ≤ sizeLine) : E K Γ (tTup ta) (.tup ds) := fun I σ H as e l Q q =>
  ha I σ H as e l _ fun I1 H1 vs g1 r1 => ⟨by rw [r1.length]; exact hl, fun p hp => q _ _ _ (g1.trans (Gr.new g1.ih hp)) (.tup (.inl (.inl upd_same)) (r1.mono (Ex.new (g1.ih.free hp))))⟩
theorem e_lst {ta : TA} (ha : EA K Γ ta ds) (hl : ds.length ≤ sizeLine) : E K Γ (tLst ta) (.lst ds) := fun I σ H as e l Q q =>
  ha I σ H as e l _ fun I1 H1 vs g1 r1 => ⟨by rw [r1.length]; exact hl, fun p hp => q _ _ _ (g1.trans (Gr.new g1.ih hp)) (.lst upd_same (r1.mono (Ex.new (g1.ih.free hp))))⟩
theorem e_if {t : TT} {b : Bool} (h : T K Γ t b) (h1 : b = true → E K Γ ta d) (h2 : b = false → E K Γ tb d) : E K Γ (tIf t ta tb) d := fun I σ H as e l Q q =>
  h I σ H as e l _ fun I1 H1 g1 => by
    cases b with
    | true => exact h1 rfl I1 σ H1 as g1.ih (l.mono g1) Q fun I2 H2 v g2 r2 => q I2 H2 v (g1.trans g2) r2
    | false => exact h2 rfl I1 σ H1 as g1.ih (l.mono g1) Q fun I2 H2 v g2 r2 => q I2 H2 v (g1.trans g2) r2
/-! ### tests -/
theorem t_test {b : Bool} (h : E K Γ te (.bl b)) : T K Γ (tTest te) b := fun I σ H as e l Q q => h I σ H as e l _ fun I1 H1 v g1 r1 => by
  cases r1
  exact ⟨b, rfl, q I1 H1 g1⟩
theorem t_b {b : Bool} (h : E K Γ te (.bl b)) : T K Γ (tB te) b := fun I σ H as e l Q q => h I σ H as e l _ fun I1 H1 v g1 r1 => by
  cases r1
  exact ⟨b, rfl, q I1 H1 g1⟩
theorem t_not {t : TT} {b : Bool} (h : T K Γ t b) : T K Γ (tNot t) (!b) := fun I σ H as e l Q q => h I σ H as e l _ fun I1 H1 g1 => q I1 H1 g1
theorem t_and {t u : TT} {a b : Bool} (h1 : T K Γ t a) (h2 : a = true → T K Γ u b) : T K Γ (tAnd t u) (a && b) := fun I σ H as e l Q q => h1 I σ H as e l _ fun I1 H1 g1 => by
  cases a with
  | true => exact h2 rfl I1 σ H1 as g1.ih (l.mono g1) Q fun I2 H2 g2 => q I2 H2 (g1.trans g2)
  | false => exact q I1 H1 g1
theorem t_or {t u : TT} {a b : Bool} (h1 : T K Γ t a) (h2 : a = false → T K Γ u b) : T K Γ (tOr t u) (a || b) := fun I σ H as e l Q q => h1 I σ H as e l _ fun I1 H1 g1 => by
  cases a with
  | true => exact q I1 H1 g1
  | false => exact h2 rfl I1 σ H1 as g1.ih (l.mono g1) Q fun I2 H2 g2 => q I2 H2 (g1.trans g2)
theorem t_yes : T K Γ tYes true := fun I σ H as e l Q q => q I H (Gr.refl e)
theorem e_andV {a b : Bool} (h1 : E K Γ ta (.bl a)) (h2 : a = true → E K Γ tb (.bl b)) : E K Γ (tAndV ta tb) (.bl (a && b)) := fun I σ H as e l Q q => h1 I σ H as e l _ fun I1 H1 v g1 r1 => by
  cases r1
  refine ⟨a, rfl, ?_⟩
  cases a with
  | true => exact h2 rfl I1 σ H1 as g1.ih (l.mono g1) Q fun I2 H2 w g2 r2 => q I2 H2 w (g1.trans g2) r2
  | false => exact q I1 H1 _ g1 (.bl false)
theorem e_orV {a b : Bool} (h1 : E K Γ ta (.bl a)) (h2 : a = false → E K Γ tb (.bl b)) : E K Γ (tOrV ta tb) (.bl (a || b)) := fun I σ H as e l Q q => h1 I σ H as e l _ fun I1 H1 v g1 r1 => by
  cases r1
  refine ⟨a, rfl, ?_⟩
  cases a with
  | true => exact q I1 H1 _ g1 (.bl true)
  | false => exact h2 rfl I1 σ H1 as g1.ih (l.mono g1) Q fun I2 H2 w g2 r2 => q I2 H2 w (g1.trans g2) r2
theorem e_notV {a : Bool} (h1 : E K Γ ta (.bl a)) : E K Γ (tNotV ta) (.bl (!a)) := fun I σ H as e l Q q => h1 I σ H as e l _ fun I1 H1 v g1 r1 => by
  cases r1
  exact ⟨a, rfl, q I1 H1 _ g1 (.bl _)⟩
theorem e_is (h : E K Γ te x) (e : x = y) : E K Γ te y := e ▸ h
theorem t_is {t : TT} {a b : Bool} (h : T K Γ t a) (e : a = b) : T K Γ t b := e ▸ h
end

/-! ### statements -/
structure Cz where
  K : PySem.W.Frag
  I : Hp
  H : Hp
  m : List (Nat × Addr)
/-- where a body stands: I, H now; c.I, c.H at its entry -/
structure At (c : Cz) (I : Hp) (σ : St) (H : Hp) (as : Nat → Addr) (Γ : Sl) : Prop where
  gr : Gr (c.m.map (·.2)) c.I c.H I H
  lo : Lo c.K I σ H as Γ
  ok : ∀ i d, Γ[i]? = some (some (.mu d)) → c.H (as i) = none ∨ (i, as i) ∈ c.m
  fix : ∀ p ∈ c.m, as p.1 = p.2
structure Ks where
  nx : Sl → Prop
  rt : D → Sl → Prop
  bk : Sl → Prop := fun _ => False
  ct : Sl → Prop := fun _ => False
structure EndsOk (c : Cz) (lb : Hp) (κ : Ks) (De : Ends) : Prop where
  nx : ∀ I σ H as Γ, κ.nx Γ → Ex lb I → At c I σ H as Γ → De.nx σ H
  rt : ∀ I H Γ v d, κ.rt d Γ → Ex lb I → Gr (c.m.map (·.2)) c.I c.H I H → Rp c.K I v d → (∀ p ∈ c.m, ∀ e, Γ[p.1]? = some (some (.mu e)) → ∃ o, H p.2 = some o ∧ MRp c.K I o e) → De.rt v H
  bk : ∀ I σ H as Γ, κ.bk Γ → Ex lb I → At c I σ H as Γ → De.bk σ H
  ct : ∀ I σ H as Γ, κ.ct Γ → Ex lb I → At c I σ H as Γ → De.ct σ H
def B (c : Cz) (Γ : Sl) (ts : TS) (κ : Ks) : Prop := ∀ (lb I : Hp) (σ : St) (H : Hp) (as : Nat → Addr) (De : Ends), Ex lb I → At c I σ H as Γ → EndsOk c lb κ De → ts De σ H
/-- Γ' says less than Γ -/
inductive Le : Sl → Sl → Prop
  | nil : Le [] []
  | none {a : Option SV} {r s : Sl} : Le r s → Le (none :: r) (a :: s)
  | same {a : Option SV} {r s : Sl} : Le r s → Le (a :: r) (a :: s)
theorem Le.refl : ∀ Γ : Sl, Le Γ Γ
  | [] => .nil
  | _ :: r => .same (Le.refl r)
theorem Le.get : ∀ {Γ' Γ : Sl}, Le Γ' Γ → ∀ {i : Nat} {s : SV}, Γ'[i]? = some (some s) → Γ[i]? = some (some s)
  | _, _, .nil, _, _, h => h
  | _, _, .none _, 0, _, h => by simp at h
  | _, _, .none l, i + 1, _, h => by simpa using Le.get l (by simpa using h)
  | _, _, .same _, 0, _, h => h
  | _, _, .same l, i + 1, _, h => by simpa using Le.get l (by simpa using h)
theorem Le.length : ∀ {Γ' Γ : Sl}, Le Γ' Γ → Γ'.length = Γ.length
  | _, _, .nil => rfl
  | _, _, .none l => congrArg (· + 1) l.length
  | _, _, .same l => congrArg (· + 1) l.length
theorem set_get {Γ : Sl} {i j : Nat} {a : Option SV} {s : SV} (h : (Γ.set i a)[j]? = some (some s)) : (j = i ∧ a = some s) ∨ (j ≠ i ∧ Γ[j]? = some (some s)) := by
  by_cases e : j = i
  · subst e
    rw [List.getElem?_set_self'] at h
    left
    cases g : Γ[j]? with
    | none => rw [g] at h; simp at h
    | some b => rw [g] at h; simp at h; exact ⟨rfl, h⟩
  · rw [List.getElem?_set_ne (Ne.symm e)] at h
    exact .inr ⟨e, h⟩
section
variable {K : PySem.W.Frag} {I I' H H' : Hp} {σ : St} {as : Nat → Addr} {Γ Γ' : Sl}
theorem Lo.weak (l : Le Γ' Γ) (h : Lo K I σ H as Γ) : Lo K I σ H as Γ' := ⟨fun i s e => h.at_ i s (l.get e), fun i j d e a b => h.ne i j d e (l.get a) (l.get b), h.len.trans l.length.symm⟩
theorem Lo.lt (h : Lo K I σ H as Γ) {i : Nat} {s : Option SV} {σ' : St} (e : (Γ.set i (some a))[i]? = some s) : i < σ.length := by
  have := (List.getElem?_eq_some_iff.mp e).1
  rw [List.length_set] at this
  rw [h.len]; exact this
theorem Lo.set (h : Lo K I σ H as Γ) {i : Nat} {v : V} {d : D} (r : Rp K I v d) : Lo K I (σ.set i (some v)) H as (Γ.set i (some (.im d))) := by
  refine ⟨fun j s e => ?_, fun j k d e a b => ?_, by simp [h.len]⟩
  · have hj := (List.getElem?_eq_some_iff.mp e).1
    rw [List.length_set, ← h.len] at hj
    rcases set_get e with ⟨rfl, e'⟩ | ⟨ne, e'⟩
    · cases e'
      exact ⟨v, by rw [List.getElem?_set_self hj], r⟩
    · have q := h.at_ j s e'
      cases s with
      | im d => obtain ⟨w, e1, r1⟩ := q; exact ⟨w, by rw [List.getElem?_set_ne (Ne.symm ne)]; exact e1, r1⟩
      | mu d => obtain ⟨e1, r1⟩ := q; exact ⟨by rw [List.getElem?_set_ne (Ne.symm ne)]; exact e1, r1⟩
  · rcases set_get a with ⟨_, e'⟩ | ⟨_, a'⟩
    · cases e'
    · rcases set_get b with ⟨_, e'⟩ | ⟨_, b'⟩
      · cases e'
      · exact h.ne j k d e a' b'
def updA (as : Nat → Addr) (i : Nat) (p : Addr) : Nat → Addr := fun j => if j = i then p else as j
theorem updA_same {as : Nat → Addr} {i : Nat} {p : Addr} : updA as i p i = p := if_pos rfl
theorem updA_ne {as : Nat → Addr} {i j : Nat} {p : Addr} (h : j ≠ i) : updA as i p j = as j := if_neg h
/-- slot i holds a new object -/
theorem Lo.setNew (h : Lo K I σ H as Γ) {i : Nat} {p : Addr} {o : HO} {d : D} (e : Ex I H) (hp : H p = none) (r : MRp K I o d) : Lo K I (σ.set i (some (.ref p))) (upd H p o) (updA as i p) (Γ.set i (some (.mu d))) := by
  have hb : ∀ j e, Γ[j]? = some (some (.mu e)) → as j ≠ p := fun j e q z => by
    obtain ⟨_, _, o, ho, _⟩ := h.at_ j _ q
    rw [z, hp] at ho; cases ho
  refine ⟨fun j s e1 => ?_, fun j k d1 e1 a b ne => ?_, by simp [h.len]⟩
  · have hj := (List.getElem?_eq_some_iff.mp e1).1
    rw [List.length_set, ← h.len] at hj
    rcases set_get e1 with ⟨rfl, e'⟩ | ⟨ne, e'⟩
    · cases e'
      exact ⟨by rw [List.getElem?_set_self hj, updA_same], by rw [updA_same]; exact e.free hp, o, by rw [updA_same]; exact upd_same, r⟩
    · have q := h.at_ j s e'
      cases s with
      | im d => obtain ⟨w, e1, r1⟩ := q; exact ⟨w, by rw [List.getElem?_set_ne (Ne.symm ne)]; exact e1, r1⟩
      | mu d =>
        obtain ⟨e1, n1, o1, r1, r2⟩ := q
        exact ⟨by rw [List.getElem?_set_ne (Ne.symm ne), updA_ne ne]; exact e1, by rw [updA_ne ne]; exact n1, o1, by rw [updA_ne ne, upd_ne (hb j d e')]; exact r1, r2⟩
  · rcases set_get a with ⟨rfl, a'⟩ | ⟨na, a'⟩
    · rcases set_get b with ⟨rfl, b'⟩ | ⟨nb, b'⟩
      · exact absurd rfl ne
      · rw [updA_same, updA_ne nb]; exact (hb k _ b').symm
    · rcases set_get b with ⟨rfl, b'⟩ | ⟨nb, b'⟩
      · rw [updA_same, updA_ne na]; exact hb j _ a'
      · rw [updA_ne na, updA_ne nb]; exact h.ne j k _ _ a' b' ne
/-- the object of slot i changes -/
theorem Lo.put (h : Lo K I σ H as Γ) {i : Nat} {o : HO} {d0 d : D} (hi : Γ[i]? = some (some (.mu d0))) (r : MRp K I o d) : Lo K I σ (upd H (as i) o) as (Γ.set i (some (.mu d))) := by
  refine ⟨fun j s e1 => ?_, fun j k d1 e1 a b ne => ?_, by simp [h.len]⟩
  · rcases set_get e1 with ⟨rfl, e'⟩ | ⟨ne, e'⟩
    · cases e'
      obtain ⟨e1, n1, o1, r1, r2⟩ := h.at_ j _ hi
      exact ⟨e1, n1, o, upd_same, r⟩
    · have q := h.at_ j s e'
      cases s with
      | im d => exact q
      | mu d =>
        obtain ⟨e1, n1, o1, r1, r2⟩ := q
        exact ⟨e1, n1, o1, by rw [upd_ne (h.ne j i _ _ e' hi ne)]; exact r1, r2⟩
  · rcases set_get a with ⟨rfl, a'⟩ | ⟨na, a'⟩
    · rcases set_get b with ⟨rfl, b'⟩ | ⟨nb, b'⟩
      · exact absurd rfl ne
      · exact h.ne _ _ _ _ hi b' ne
    · rcases set_get b with ⟨rfl, b'⟩ | ⟨nb, b'⟩
      · exact h.ne _ _ _ _ a' hi ne
      · exact h.ne _ _ _ _ a' b' ne
theorem MRp.rp {o : HO} {d : D} {a : Addr} (r : MRp K I o d) (h : I a = some o) : Rp K I (.ref a) d := by
  cases r with
  | lst r => exact .lst h r
  | dic l r => exact .dic h l r
  | ins l r => exact .obj h l r
/-- the object of slot i changes no more -/
theorem Lo.freeze (h : Lo K I σ H as Γ) {i : Nat} {o : HO} {d : D} (hi : Γ[i]? = some (some (.mu d))) (ho : H (as i) = some o) (r : MRp K I o d) : Lo K (upd I (as i) o) σ H as (Γ.set i (some (.im d))) := by
  obtain ⟨e0, n0, _, _, _⟩ := h.at_ i _ hi
  have ei : Ex I (upd I (as i) o) := Ex.new n0
  refine ⟨fun j s e1 => ?_, fun j k d1 e1 a b ne => ?_, by simp [h.len]⟩
  · rcases set_get e1 with ⟨rfl, e'⟩ | ⟨ne, e'⟩
    · cases e'
      exact ⟨_, e0, (r.mono ei).rp upd_same⟩
    · have q := h.at_ j s e'
      cases s with
      | im d => obtain ⟨w, e1, r1⟩ := q; exact ⟨w, e1, r1.mono ei⟩
      | mu d =>
        obtain ⟨e1, n1, o1, r1, r2⟩ := q
        exact ⟨e1, by rw [upd_ne (h.ne j i _ _ e' hi ne)]; exact n1, o1, r1, r2.mono ei⟩
  · rcases set_get a with ⟨_, e'⟩ | ⟨_, a'⟩
    · cases e'
    · rcases set_get b with ⟨_, e'⟩ | ⟨_, b'⟩
      · cases e'
      · exact h.ne j k _ _ a' b' ne
theorem Gr.mut {m : List Addr} {I0 H0 : Hp} (g : Gr m I0 H0 I H) {a : Addr} {o : HO} (n : I a = none) (h : H0 a = none ∨ a ∈ m) : Gr m I0 H0 I (upd H a o) where
  i := g.i
  ih := fun x u q => by
    have z : x ≠ a := fun z => by rw [z, n] at q; cases q
    rw [upd_ne z]; exact g.ih x u q
  h := fun x u hx q => by
    have z : x ≠ a := fun z => by
      rcases h with h | h
      · rw [z, h] at q; cases q
      · exact hx (z ▸ h)
    rw [upd_ne z]; exact g.h x u hx q
  th := fun x q => by
    by_cases z : x = a
    · rw [z, upd_same]; exact nofun
    · rw [upd_ne z]; exact g.th x q
  fr := g.fr
theorem Gr.frz {m : List Addr} {I0 H0 : Hp} (g : Gr m I0 H0 I H) {a : Addr} {o : HO} (n : I a = none) (h : H0 a = none) (ho : H a = some o) : Gr m I0 H0 (upd I a o) H where
  i := g.i.trans (Ex.new n)
  ih := fun x u q => by
    by_cases z : x = a
    · rw [z, upd_same] at q; rw [z, ho]; exact q
    · rw [upd_ne z] at q; exact g.ih x u q
  h := g.h
  th := g.th
  fr := fun x q => by
    have z : x ≠ a := fun z => q (z ▸ h)
    rw [upd_ne z]; exact g.fr x q
end
theorem At.mono {c : Cz} {I I' H H' : Hp} {σ : St} {as : Nat → Addr} {Γ : Sl} (a : At c I σ H as Γ) (g : Gr [] I H I' H') : At c I' σ H' as Γ := ⟨a.gr.trans g.weak, a.lo.mono g, a.ok, a.fix⟩
theorem At.weak {c : Cz} {I H : Hp} {σ : St} {as : Nat → Addr} {Γ Γ' : Sl} (l : Le Γ' Γ) (a : At c I σ H as Γ) : At c I σ H as Γ' := ⟨a.gr, a.lo.weak l, fun i d h => a.ok i d (l.get h), a.fix⟩
theorem At.set {c : Cz} {I H : Hp} {σ : St} {as : Nat → Addr} {Γ : Sl} (a : At c I σ H as Γ) {i : Nat} {v : V} {d : D} (r : Rp c.K I v d) : At c I (σ.set i (some v)) H as (Γ.set i (some (.im d))) :=
  ⟨a.gr, a.lo.set r, fun j e h => by
    rcases set_get h with ⟨_, e'⟩ | ⟨_, h'⟩
    · cases e'
    · exact a.ok j e h', a.fix⟩
section
variable {c : Cz} {Γ Γ' : Sl} {κ : Ks} {te : TE} {t u ts : TS} {d : D} {ds : List D}
theorem b_next (h : κ.nx Γ) : B c Γ tNext κ := fun lb I σ H as De e a k => k.nx I σ H as Γ h e a
theorem b_brk (h : κ.bk Γ) : B c Γ tBreak κ := fun lb I σ H as De e a k => k.bk I σ H as Γ h e a
theorem b_cont (h : κ.ct Γ) : B c Γ tCont κ := fun lb I σ H as De e a k => k.ct I σ H as Γ h e a
theorem b_seq (h : B c Γ t { κ with nx := fun Γ' => B c Γ' u κ }) : B c Γ (tSeq t u) κ := fun lb I σ H as De e a k =>
  h lb I σ H as { De with nx := u De } e a ⟨fun I' σ' H' as' Γ' q e' a' => q lb I' σ' H' as' De e' a' k, k.rt, k.bk, k.ct⟩
theorem b_weak (l : Le Γ' Γ) (h : B c Γ' ts κ) : B c Γ ts κ := fun lb I σ H as De e a k => h lb I σ H as De e (a.weak l) k
theorem b_ks {κ' : Ks} (h : B c Γ ts κ') (h1 : ∀ Γ, κ'.nx Γ → κ.nx Γ) (h2 : ∀ d Γ, κ'.rt d Γ → κ.rt d Γ) (h3 : ∀ Γ, κ'.bk Γ → κ.bk Γ) (h4 : ∀ Γ, κ'.ct Γ → κ.ct Γ) : B c Γ ts κ := fun lb I σ H as De e a k =>
  h lb I σ H as De e a ⟨fun I σ H as Γ q => k.nx I σ H as Γ (h1 Γ q), fun I H Γ v d q => k.rt I H Γ v d (h2 d Γ q), fun I σ H as Γ q => k.bk I σ H as Γ (h3 Γ q), fun I σ H as Γ q => k.ct I σ H as Γ (h4 Γ q)⟩
theorem b_set {i : Nat} (h : E c.K Γ te d) (k : κ.nx (Γ.set i (some (.im d)))) : B c Γ (tAsg te (gName i)) κ := fun lb I σ H as De e a q =>
  h I σ H as a.gr.ih a.lo _ fun I1 H1 v g r => q.nx _ _ _ _ _ k (e.trans g.i) ((a.mono g).set r)
theorem b_drop (h : E c.K Γ te d) (k : κ.nx Γ) : B c Γ (tDrop te) κ := fun lb I σ H as De e a q =>
  h I σ H as a.gr.ih a.lo _ fun I1 H1 v g r => q.nx _ _ _ _ _ k (e.trans g.i) (a.mono g)
theorem b_ret (h : E c.K Γ te d) (k : κ.rt d Γ) : B c Γ (tRet te) κ := fun lb I σ H as De e a q =>
  h I σ H as a.gr.ih a.lo _ fun I1 H1 v g r => q.rt _ _ _ _ _ k (e.trans g.i) (a.mono g).gr r fun p hp e1 he => by
    obtain ⟨_, _, o, ho, r1⟩ := (a.mono g).lo.at_ _ _ he
    rw [a.fix p hp] at ho
    exact ⟨o, ho, r1⟩
theorem b_retN (k : κ.rt .non Γ) : B c Γ tRetN κ := fun lb I σ H as De e a q =>
  q.rt _ _ _ _ _ k e a.gr .non fun p hp e1 he => by
    obtain ⟨_, _, o, ho, r1⟩ := a.lo.at_ _ _ he
    rw [a.fix p hp] at ho
    exact ⟨o, ho, r1⟩
theorem b_if {tc : TT} {b : Bool} (h : T c.K Γ tc b) (h1 : b = true → B c Γ t κ) (h2 : b = false → B c Γ u κ) : B c Γ (tIfS tc t u) κ := fun lb I σ H as De e a q =>
  h I σ H as a.gr.ih a.lo _ fun I1 H1 g => by
    cases b with
    | true => exact h1 rfl lb I1 σ H1 as De (e.trans g.i) (a.mono g) q
    | false => exact h2 rfl lb I1 σ H1 as De (e.trans g.i) (a.mono g) q
/-- a new list of the def's own -/
theorem b_new {i : Nat} {ta : TA} (h : EA c.K Γ ta ds) (hl : ds.length ≤ sizeLine) (hm : ∀ p ∈ c.m, p.1 ≠ i) (k : κ.nx (Γ.set i (some (.mu (.lst ds))))) : B c Γ (tAsg (tLst ta) (gName i)) κ := fun lb I σ H as De e a q =>
  h I σ H as a.gr.ih a.lo _ fun I1 H1 vs g r => by
    refine ⟨by rw [r.length]; exact hl, fun p hp => ?_⟩
    have a1 := a.mono g
    refine q.nx I1 _ _ (updA as i p) _ k (e.trans g.i) ⟨a1.gr.trans (Gr.junk a1.gr.ih hp), a1.lo.setNew a1.gr.ih hp (.lst r), fun j e1 h1 => ?_, fun p' hp' => by rw [updA_ne (hm p' hp')]; exact a1.fix p' hp'⟩
    rcases set_get h1 with ⟨rfl, _⟩ | ⟨ne, h'⟩
    · rw [updA_same]
      left
      cases z : c.H p with
      | none => rfl
      | some o => exact absurd hp (a1.gr.th p (by rw [z]; exact nofun))
    · rw [updA_ne ne]; exact a1.ok j e1 h'
theorem At.put {c : Cz} {I H : Hp} {σ : St} {as : Nat → Addr} {Γ : Sl} (a : At c I σ H as Γ) {i : Nat} {o : HO} {d0 d : D} (hi : Γ[i]? = some (some (.mu d0))) (r : MRp c.K I o d) : At c I σ (upd H (as i) o) as (Γ.set i (some (.mu d))) := by
  have n0 := (a.lo.at_ i _ hi).2.1
  refine ⟨a.gr.mut n0 ((a.ok i _ hi).imp_right fun z => List.mem_map_of_mem (f := fun p : Nat × Addr => p.2) z), a.lo.put hi r, fun j e h => ?_, a.fix⟩
  rcases set_get h with ⟨rfl, _⟩ | ⟨_, h'⟩
  · exact a.ok j _ hi
  · exact a.ok j e h'
/-- x.append(e) -/
theorem b_append {i : Nat} (hi : Γ[i]? = some (some (.mu (.lst ds)))) (h : E c.K Γ te d) (hl : ds.length < sizeLine) (k : κ.nx (Γ.set i (some (.mu (.lst (ds ++ [d])))))) : B c Γ (tDrop (tBM c.K "list" rAppend (tVar i) (tCons te tNil))) κ := fun lb I σ H as De e a q => by
  obtain ⟨hv, hn, o, ho, r⟩ := a.lo.at_ i _ hi
  cases r with
  | lst r =>
    refine ⟨_, hv, .inl ⟨rfl, _, SqL.of ho⟩, ?_⟩
    refine h I σ H as a.gr.ih a.lo _ fun I1 H1 v g r1 => ?_
    have ho1 := g.ex _ _ ho
    refine ⟨_, _, _, rfl, rfl, ho1, by rw [r.length]; exact hl, ?_⟩
    exact q.nx I1 _ _ as _ k (e.trans g.i) ((a.mono g).put hi (.lst ((r.mono g.i).append (.one r1))))
/-- the object of slot i changes no more -/
theorem At.freeze {c : Cz} {I H : Hp} {σ : St} {as : Nat → Addr} {Γ : Sl} (a : At c I σ H as Γ) {i : Nat} {d : D} (hi : Γ[i]? = some (some (.mu d))) (hm : ∀ p ∈ c.m, p.1 ≠ i) : ∃ I', Ex I I' ∧ At c I' σ H as (Γ.set i (some (.im d))) := by
  obtain ⟨hv, hn, o, ho, r⟩ := a.lo.at_ i _ hi
  have h0 : c.H (as i) = none := (a.ok i _ hi).resolve_right fun z => hm _ z rfl
  refine ⟨upd I (as i) o, Ex.new hn, a.gr.frz hn h0 ho, a.lo.freeze hi ho r, fun j e h => ?_, a.fix⟩
  rcases set_get h with ⟨_, e'⟩ | ⟨_, h'⟩
  · cases e'
  · exact a.ok j e h'
theorem b_freeze (i : Nat) (hi : Γ[i]? = some (some (.mu d))) (hm : ∀ p ∈ c.m, p.1 ≠ i) (h : B c (Γ.set i (some (.im d))) ts κ) : B c Γ ts κ := fun lb I σ H as De e a q => by
  obtain ⟨I', e', a'⟩ := a.freeze hi hm
  exact h lb I' σ H as De (e.trans e') a' q
end
end G

namespace G
open PySem PySem.Spec L2

/-! ### what is walked -/
def IsW (K : PySem.W.Frag) (I : Hp) (J : It) (xs : List D) : Prop := ∃ (Gc : Hp → Prop) (Y : Nat → Hp → V → Hp → Prop), Walk J xs.length Gc Y ∧ (∀ I1 H1, Ex I I1 → Ex I1 H1 → Gc H1) ∧
  ∀ i H x H' I1, i < xs.length → Y i H x H' → Ex I I1 → Ex I1 H → ∃ I2 d, Gr [] I1 H I2 H' ∧ xs[i]? = some d ∧ Rp K I2 x d
def Src (K : PySem.W.Frag) (Γ : Sl) (wi : TI) (xs : List D) : Prop := ∀ (I : Hp) (σ : St) (H : Hp) (as : Nat → Addr), Ex I H → Lo K I σ H as Γ → ∀ R : It → Hp → Prop, (∀ I' H' J, Gr [] I H I' H' → IsW K I' J xs → R J H') → wi σ H R
section
variable {K : PySem.W.Frag} {Γ Γ' : Sl} {te : TE} {ds : List D}
theorem isw_at {I : Hp} {J : It} {vs : List V} {ds : List D} {Gc : Hp → Prop} (w : Walk J vs.length Gc (YAt vs)) (hg : ∀ I1 H1, Ex I I1 → Ex I1 H1 → Gc H1) (r : Rps K I vs ds) : IsW K I J ds :=
  ⟨Gc, YAt vs, by rw [← r.length]; exact w, hg, fun i H x H' I1 _ y e e1 => by
    obtain ⟨rfl, hx⟩ := y
    obtain ⟨d, hd, rx⟩ := r.getV hx
    exact ⟨I1, d, Gr.refl e1, hd, rx.mono e⟩⟩
theorem src_list {d : D} (h : E K Γ te d) (hl : LD d ds) : Src K Γ (iList K te) ds := fun I σ H as e l R q => h I σ H as e l _ fun I1 H1 v g r => by
  obtain ⟨a, vs, rfl, hs, hr⟩ := r.l hl
  exact ⟨_, rfl, ⟨_, ex_l g.ih hs⟩, q I1 H1 _ g (isw_at walk_list (fun I2 H2 e1 e2 => ex_l (e1.trans e2) hs) hr)⟩
theorem src_tup (h : E K Γ te (.tup ds)) : Src K Γ (iTup K te) ds := fun I σ H as e l R q => h I σ H as e l _ fun I1 H1 v g r => by
  cases r with
  | tup hs hr => exact ⟨_, rfl, ⟨_, ex_t g.ih hs⟩, q I1 H1 _ g (isw_at walk_tup (fun I2 H2 e1 e2 => ex_t (e1.trans e2) hs) hr)⟩
/-- the signs of a text -/
def signs (z : Str) : List D := z.cps.toList.map fun c => .str ⟨#[c]⟩
theorem src_str {z : Str} (h : E K Γ te (.str z)) : Src K Γ (iStr te) (signs z) := fun I σ H as e l R q => h I σ H as e l _ fun I1 H1 v g r => by
  cases r
  refine ⟨z, rfl, q I1 H1 _ g ⟨fun _ => True, _, by rw [signs, List.length_map, Array.length_toList]; exact walk_str, fun _ _ _ _ => trivial, ?_⟩⟩
  rintro i H x H' I2 hi ⟨rfl, c, hc, rfl⟩ e1 e2
  refine ⟨I2, .str ⟨#[c]⟩, Gr.refl e2, ?_, .str _⟩
  rw [signs, List.getElem?_map, Array.getElem?_toList, hc]
  rfl
theorem isw_rng {I : Hp} {lo : Int} {n : Nat} : IsW K I (Itr lo n) ((List.range n).map fun (i : Nat) => D.int (lo + (i : Int))) := by
  refine ⟨fun _ => True, _, by rw [List.length_map, List.length_range]; exact walk_range, fun _ _ _ _ => trivial, ?_⟩
  rintro i H x H' I2 hi ⟨rfl, rfl⟩ e1 e2
  rw [List.length_map, List.length_range] at hi
  refine ⟨I2, .int (lo + i), Gr.refl e2, ?_, .int _⟩
  rw [List.getElem?_map, List.getElem?_range hi]
  rfl
theorem src_rng1 {ta : TA} {n : Int} (h : EA K Γ ta [.int n]) (h0 : -(2 ^ 62) ≤ n) (h1 : n < 2 ^ 62) : Src K Γ (iRng1 ta) ((List.range n.toNat).map fun (i : Nat) => D.int (i : Int)) := fun I σ H as e l R q => h I σ H as e l _ fun I1 H1 v g r => by
  cases r with
  | cons a b =>
    cases a; cases b
    refine ⟨n, rfl, h0, h1, q I1 H1 _ g ?_⟩
    have := isw_rng (K := K) (I := I1) (lo := 0) (n := n.toNat)
    simpa using this
theorem src_rng2 {ta : TA} {m n : Int} (h : EA K Γ ta [.int m, .int n]) (h0 : -(2 ^ 62) ≤ m ∧ m < 2 ^ 62 ∧ -(2 ^ 62) ≤ n ∧ n < 2 ^ 62) : Src K Γ (iRng2 ta) ((List.range (n - m).toNat).map fun (i : Nat) => D.int (m + (i : Int))) := fun I σ H as e l R q => h I σ H as e l _ fun I1 H1 v g r => by
  cases r with
  | cons a b =>
    cases a
    cases b with
    | cons a b =>
      cases a; cases b
      exact ⟨m, n, rfl, h0, q I1 H1 _ g isw_rng⟩
theorem isw_pair {I : Hp} {J : It} {n : Nat} {xf yf : Nat → Option V} {xs : List D} {Gc : Hp → Prop} (w : Walk J n Gc (YPair xf yf)) (hn : xs.length = n) (hg : ∀ I1 H1, Ex I I1 → Ex I1 H1 → Gc H1)
    (hx : ∀ i x y, i < n → xf i = some x → yf i = some y → ∃ d e, xs[i]? = some (.tup [d, e]) ∧ Rp K I x d ∧ Rp K I y e) : IsW K I J xs := by
  refine ⟨Gc, YPair xf yf, by rw [hn]; exact w, hg, ?_⟩
  rintro i H v H' I1 hi ⟨T, x, y, rfl, hT, rfl, h1, h2⟩ e1 e2
  obtain ⟨d, e, hd, rx, ry⟩ := hx i x y (hn ▸ hi) h1 h2
  have en := Ex.new (o := .tup [x, y]) (e2.free hT)
  exact ⟨_, _, Gr.new e2 hT, hd, .tup (.inl (.inl upd_same)) (.cons (rx.mono (e1.trans en)) (.cons (ry.mono (e1.trans en)) .nil))⟩
def enumD (ds : List D) : List D := ds.mapIdx fun i d => .tup [.int i, d]
theorem src_enum {ta : TA} {d : D} (h : EA K Γ ta [d]) (hl : LD d ds) : Src K Γ (iEnum K ta) (enumD ds) := fun I σ H as e l R q => h I σ H as e l _ fun I1 H1 v g r => by
  cases r with
  | cons a b =>
    cases b
    obtain ⟨a, vs, rfl, hs, hr⟩ := a.l hl
    · refine ⟨_, _, rfl, ex_l g.ih hs, q I1 H1 _ g (isw_pair walk_enum ?_ (fun I2 H2 e1 e2 => ex_l (e1.trans e2) hs) ?_)⟩
      · rw [enumD, List.length_mapIdx, hr.length]
      · intro i x y hi h1 h2
        obtain ⟨d, hd, rd⟩ := hr.getV h2
        refine ⟨.int i, d, ?_, ?_, rd⟩
        · rw [enumD, List.getElem?_mapIdx, hd]; rfl
        · cases h1; exact .int _
theorem src_zip {ta : TA} {d1 d2 : D} {es : List D} (h : EA K Γ ta [d1, d2]) (hl : LD d1 ds) (hl2 : LD d2 es) : Src K Γ (iZip K ta) ((ds.zip es).map fun p => .tup [p.1, p.2]) := fun I σ H as e l R q => h I σ H as e l _ fun I1 H1 v g r => by
  cases r with
  | cons a b =>
    cases b with
    | cons b c =>
      cases c
      obtain ⟨a, vs, rfl, hs, hr⟩ := a.l hl
      obtain ⟨a2, vs2, rfl, hs2, hr2⟩ := b.l hl2
      · · refine ⟨_, _, _, _, rfl, ex_l g.ih hs, ex_l g.ih hs2, q I1 H1 _ g (isw_pair (walk_zip (n := min ds.length es.length) ?_) ?_ (fun I2 H2 e1 e2 => ⟨ex_l (e1.trans e2) hs, ex_l (e1.trans e2) hs2⟩) ?_)⟩
          · rw [hr.length, hr2.length]
          · rw [List.length_map, List.length_zip]
          · intro i x y hi h1 h2
            obtain ⟨d, hd, rd⟩ := hr.getV h1
            obtain ⟨e, he, re⟩ := hr2.getV h2
            refine ⟨d, e, ?_, rd, re⟩
            rw [List.getElem?_map, List.getElem?_zip_eq_some (z := (d, e)) |>.mpr ⟨hd, he⟩]; rfl
theorem src_rev {ta : TA} {d : D} (h : EA K Γ ta [d]) (hl : LD d ds) : Src K Γ (iRev K ta) ds.reverse := fun I σ H as e l R q => h I σ H as e l _ fun I1 H1 v g r => by
  cases r with
  | cons a b =>
    cases b
    obtain ⟨a', xs, rfl, hs, hr⟩ := a.l hl
    · refine ⟨_, _, rfl, ex_l g.ih hs, q I1 H1 _ g ⟨fun H => SqL K H a' xs, _, by rw [List.length_reverse, ← hr.length]; exact walk_rev, fun I2 H2 e1 e2 => ex_l (e1.trans e2) hs, ?_⟩⟩
      rintro i H x H' I2 hi ⟨rfl, hx⟩ e1 e2
      obtain ⟨d, hd, rd⟩ := hr.getV hx
      rw [List.length_reverse] at hi
      refine ⟨I2, d, Gr.refl e2, ?_, rd.mono e1⟩
      rw [List.getElem?_reverse hi, ← hr.length]; exact hd
theorem src_or1 {w1 w2 : TI} (h : Src K Γ w1 ds) : Src K Γ (fun σ H R => w1 σ H R ∨ w2 σ H R) ds := fun I σ H as e l R q => .inl (h I σ H as e l R q)
theorem src_or2 {w1 w2 : TI} (h : Src K Γ w2 ds) : Src K Γ (fun σ H R => w1 σ H R ∨ w2 σ H R) ds := fun I σ H as e l R q => .inr (h I σ H as e l R q)

/-! ### targets -/
def MuSub (Γ' Γ : Sl) : Prop := ∀ (i : Nat) (d : D), Γ'[i]? = some (some (SV.mu d)) → Γ[i]? = some (some (SV.mu d))
structure Tgt (K : PySem.W.Frag) (g : TG) (d : D) (ws : List Nat) (Γ Γ' : Sl) : Prop where
  sub : MuSub Γ' Γ
  run : ∀ (I : Hp) (σ : St) (H : Hp) (as : Nat → Addr) (v : V), Ex I H → Lo K I σ H as Γ → Rp K I v d → ∀ Q : St → Hp → Prop, (∀ σ', Lo K I σ' H as Γ' → (∀ j, j ∉ ws → σ'[j]? = σ[j]?) → σ'.length = σ.length → Q σ' H) → g v σ H Q
structure Tgts (K : PySem.W.Frag) (g : TGs) (ds : List D) (ws : List Nat) (Γ Γ' : Sl) : Prop where
  sub : MuSub Γ' Γ
  run : ∀ (I : Hp) (σ : St) (H : Hp) (as : Nat → Addr) (vs : List V), Ex I H → Lo K I σ H as Γ → Rps K I vs ds → ∀ Q : St → Hp → Prop, (∀ σ', Lo K I σ' H as Γ' → (∀ j, j ∉ ws → σ'[j]? = σ[j]?) → σ'.length = σ.length → Q σ' H) → g vs σ H Q
theorem tgt_name {i : Nat} {d : D} : Tgt K (gName i) d [i] Γ (Γ.set i (some (.im d))) := ⟨fun j e h => by
    rcases set_get h with ⟨_, z⟩ | ⟨_, z⟩
    · cases z
    · exact z, fun I σ H as v e l r Q q => q _ (l.set r) (fun j hj => List.getElem?_set_ne (fun z => hj (by rw [z]; exact List.mem_singleton.mpr rfl))) (by simp)⟩
theorem tgs_nil : Tgts K gNil [] [] Γ Γ := ⟨fun _ _ h => h, fun I σ H as vs e l r Q q => by
    cases r
    exact ⟨rfl, q σ l (fun _ _ => rfl) rfl⟩⟩
theorem tgs_cons {g : TG} {gs : TGs} {d : D} {w1 w2 : List Nat} {Γ2 : Sl} (h : Tgt K g d w1 Γ Γ2) (hs : Tgts K gs ds w2 Γ2 Γ') : Tgts K (gCons g gs) (d :: ds) (w1 ++ w2) Γ Γ' := ⟨fun j e a => h.sub j e (hs.sub j e a), fun I σ H as vs e l r Q q => by
    cases r with
    | cons a b =>
      refine ⟨_, _, rfl, h.run I σ H as _ e l a _ fun σ1 l1 k1 n1 => hs.run I σ1 H as _ e l1 b _ fun σ2 l2 k2 n2 => q σ2 l2 (fun j hj => ?_) (n2.trans n1)⟩
      rw [List.mem_append] at hj
      exact (k2 j fun z => hj (.inr z)).trans (k1 j fun z => hj (.inl z))⟩
theorem tgt_tup {gs : TGs} {n : Nat} {ws : List Nat} (h : Tgts K gs ds ws Γ Γ') (hn : ds.length = n) : Tgt K (gTup K n gs) (.tup ds) ws Γ Γ' := ⟨h.sub, fun I σ H as v e l r Q q => by
    cases r with
    | tup hs hr => exact ⟨_, _, rfl, ex_t e hs, by rw [hr.length]; exact hn, h.run I σ H as _ e l hr Q q⟩⟩
end

/-! ### loops -/
section
variable {c : Cz} {Γ : Sl} {κ : Ks}
theorem b_for {wi : TI} {g : TG} {tb : TS} {xs : List D} (hs : Src c.K Γ wi xs) {S : Type} (R : Nat → S → Prop) (Γf : S → Sl) (s0 : S) (h0 : R 0 s0) (l0 : Le (Γf s0) Γ)
    (ht : ∀ i s d, xs[i]? = some d → R i s → ∃ ws Γ1, Tgt c.K g d ws (Γf s) Γ1 ∧ B c Γ1 tb ⟨fun Γ' => ∃ s', R (i + 1) s' ∧ Le (Γf s') Γ', κ.rt, κ.nx, fun Γ' => ∃ s', R (i + 1) s' ∧ Le (Γf s') Γ'⟩)
    (hd : ∀ s, R xs.length s → κ.nx (Γf s)) : B c Γ (tFor wi g tb) κ := fun lb I σ H as De e a k =>
  hs I σ H as a.gr.ih a.lo _ fun I1 H1 J g1 hw => by
    obtain ⟨Gc, Y, w, hg, hy⟩ := hw
    refine for_it (g := g) (tb := tb) (D := De) w (fun i σ H => ∃ I as s, R i s ∧ Ex I1 I ∧ At c I σ H as (Γf s)) ⟨I1, as, s0, h0, Ex.refl _, (a.mono g1).weak l0⟩ (fun i σ H _ ⟨I, as, s, _, e1, a1⟩ => hg I H e1 a1.gr.ih) ?_ ?_
    · rintro i x σ H H' hi ⟨I, as, s, r, e1, a1⟩ y
      obtain ⟨I2, d, g2, hd2, rx⟩ := hy i H x H' I hi y e1 a1.gr.ih
      obtain ⟨ws, Γ1, tg, hb⟩ := ht i s d hd2 r
      have a2 := a1.mono g2
      refine tg.run I2 σ H' as x g2.ih a2.lo rx _ fun σ' lo' _ _ => ?_
      have e3 : Ex I1 I2 := e1.trans g2.i
      have e0 : Ex lb I1 := e.trans g1.i
      exact hb I1 I2 σ' H' as _ e3 ⟨a2.gr, lo', fun j d h => a2.ok j d (tg.sub j d h), a2.fix⟩ ⟨fun I3 σ3 H3 as3 Γ3 ⟨s', r', le⟩ e4 a4 => ⟨I3, as3, s', r', e4, a4.weak le⟩,
        fun I3 H3 Γ3 v d hr e4 => k.rt I3 H3 Γ3 v d hr (e0.trans e4), fun I3 σ3 H3 as3 Γ3 hb e4 a4 => k.nx I3 σ3 H3 as3 Γ3 hb (e0.trans e4) a4, fun I3 σ3 H3 as3 Γ3 ⟨s', r', le⟩ e4 a4 => ⟨I3, as3, s', r', e4, a4.weak le⟩⟩
    · rintro σ H ⟨I, as, s, r, e1, a1⟩
      exact k.nx I σ H as _ (hd s r) ((e.trans g1.i).trans e1) a1
theorem b_while {tc : TT} {tb : TS} {S : Type} (R : S → Prop) (b : S → Bool) (mes : S → Nat) (Γf : S → Sl) (s0 : S) (h0 : R s0) (l0 : Le (Γf s0) Γ) (hc : ∀ s, R s → T c.K (Γf s) tc (b s))
    (ht : ∀ s, R s → b s = true → B c (Γf s) tb ⟨fun Γ' => ∃ s', R s' ∧ mes s' < mes s ∧ Le (Γf s') Γ', κ.rt, κ.nx, fun Γ' => ∃ s', R s' ∧ mes s' < mes s ∧ Le (Γf s') Γ'⟩)
    (hd : ∀ s, R s → b s = false → κ.nx (Γf s)) : B c Γ (tWhile tc tb) κ := fun lb I σ H as De e a k => by
  refine ⟨fun m σ H => ∃ I as s, R s ∧ m = mes s ∧ Ex lb I ∧ At c I σ H as (Γf s), ⟨mes s0, I, as, s0, h0, rfl, e, a.weak l0⟩, ?_⟩
  rintro m σ H ⟨I, as, s, r, rfl, e1, a1⟩
  refine hc s r I σ H as a1.gr.ih a1.lo _ fun I1 H1 g1 => ?_
  have a2 := a1.mono g1
  have e2 := e1.trans g1.i
  cases hb : b s with
  | true =>
    rw [if_pos rfl]
    refine ⟨fun σ' H' => ∃ I as s', R s' ∧ mes s' < mes s ∧ Ex lb I ∧ At c I σ' H' as (Γf s'), fun σ' H' ⟨I, as, s', r', lt, e', a'⟩ => ⟨_, lt, I, as, s', r', rfl, e', a'⟩, ?_⟩
    exact ht s r hb lb I1 σ H1 as _ e2 a2 ⟨fun I3 σ3 H3 as3 Γ3 ⟨s', r', lt, le⟩ e4 a4 => ⟨I3, as3, s', r', lt, e4, a4.weak le⟩, k.rt, fun I3 σ3 H3 as3 Γ3 hb e4 a4 => k.nx I3 σ3 H3 as3 Γ3 hb e4 a4, fun I3 σ3 H3 as3 Γ3 ⟨s', r', lt, le⟩ e4 a4 => ⟨I3, as3, s', r', lt, e4, a4.weak le⟩⟩
  | false =>
    rw [if_neg Bool.false_ne_true]
    exact k.nx I1 σ H1 as _ (hd s r hb) e2 a2
end

/-! ### comprehensions -/
def wipeG (Γ : Sl) : List Nat → Sl
  | [] => Γ
  | v :: vs => (wipeG Γ vs).set v none
section
variable {K : PySem.W.Frag} {Γ : Sl}
theorem wipeG_len {vs : List Nat} : (wipeG Γ vs).length = Γ.length := by
  induction vs with
  | nil => rfl
  | cons v vs ih => unfold wipeG; rw [List.length_set, ih]
theorem wipeG_get {vs : List Nat} {i : Nat} {s : SV} (h : (wipeG Γ vs)[i]? = some (some s)) : Γ[i]? = some (some s) ∧ i ∉ vs := by
  induction vs with
  | nil => exact ⟨h, by simp⟩
  | cons v vs ih =>
    unfold wipeG at h
    rcases set_get h with ⟨_, z⟩ | ⟨ne, z⟩
    · cases z
    · obtain ⟨a, b⟩ := ih z
      exact ⟨a, by simp [ne, b]⟩
theorem wipe_get {σ : St} {vs : List Nat} {i : Nat} (h : i ∉ vs) : (wipe σ vs)[i]? = σ[i]? := by
  induction vs with
  | nil => rfl
  | cons v vs ih =>
    unfold wipe
    rw [List.getElem?_set_ne (fun z => h (by rw [z]; exact List.mem_cons_self)), ih fun z => h (List.mem_cons_of_mem _ z)]
theorem Lo.wipe {I H : Hp} {σ : St} {as : Nat → Addr} (l : Lo K I σ H as Γ) (vs : List Nat) : Lo K I (wipe σ vs) H as (wipeG Γ vs) := by
  refine ⟨fun i s h => ?_, fun i j d e a b => l.ne i j d e (wipeG_get a).1 (wipeG_get b).1, by rw [wipe_length, wipeG_len, l.len]⟩
  obtain ⟨h1, h2⟩ := wipeG_get h
  have q := l.at_ i s h1
  cases s with
  | im d => obtain ⟨v, e, r⟩ := q; exact ⟨v, by rw [wipe_get h2]; exact e, r⟩
  | mu d => obtain ⟨e, r⟩ := q; exact ⟨by rw [wipe_get h2]; exact e, r⟩
theorem wipe_eq {σ σ' : St} {vs ws : List Nat} (h : ∀ j, j ∉ ws → σ'[j]? = (wipe σ vs)[j]?) (hl : σ'.length = (wipe σ vs).length) (hw : ∀ j ∈ ws, j ∈ vs) : wipe σ' vs = wipe σ vs := by
  have key : ∀ (vs : List Nat) (σ1 σ2 : St), σ1.length = σ2.length → (∀ j, j ∉ vs → σ1[j]? = σ2[j]?) → wipe σ1 vs = wipe σ2 vs := by
    intro vs
    induction vs with
    | nil => intro σ1 σ2 _ h; exact List.ext_getElem? fun j => h j (by simp)
    | cons v vs ih =>
      intro σ1 σ2 hl h
      have e : (wipe σ1 vs).set v none = (wipe σ2 vs).set v none := by
        refine List.ext_getElem? fun j => ?_
        by_cases z : j = v
        · subst z
          rw [List.getElem?_set, List.getElem?_set, if_pos rfl, if_pos rfl, wipe_length, wipe_length, hl]
        · rw [List.getElem?_set_ne (Ne.symm z), List.getElem?_set_ne (Ne.symm z)]
          by_cases zz : j ∈ vs
          · have none_at : ∀ (vs : List Nat) (σ : St), j ∈ vs → (wipe σ vs)[j]? = if j < σ.length then some none else none := by
              intro vs
              induction vs with
              | nil => intro σ h; simp at h
              | cons u us ihh =>
                intro σ hm
                unfold wipe
                by_cases q : j = u
                · subst q; rw [List.getElem?_set, if_pos rfl, wipe_length]; 
                · rw [List.getElem?_set_ne (Ne.symm q)]
                  exact ihh σ ((List.mem_cons.mp hm).resolve_left q)
            rw [none_at vs σ1 zz, none_at vs σ2 zz, hl]
          · rw [wipe_get zz, wipe_get zz]
            exact h j (by simp [z, zz])
      exact e
  have e1 : wipe σ' vs = wipe (wipe σ vs) vs := key vs _ _ hl fun j hj => h j fun z => hj (hw j z)
  have e2 : wipe (wipe σ vs) vs = wipe σ vs := key vs _ _ (wipe_length σ vs) fun j hj => wipe_get hj
  exact e1.trans e2
theorem e_lc {α : Type} {xs : List α} {em : α → D} {p : α → Bool} {f : α → D} {wi : TI} {g : TG} {tt : TT} {te : TE} {vs : List Nat} (hs : Src K Γ wi (xs.map em)) (hl : xs.length ≤ 10000000)
    (ht : ∀ (i : Nat) (x : α), xs[i]? = some x → ∃ ws Γ1, Tgt K g (em x) ws (wipeG Γ vs) Γ1 ∧ (∀ j ∈ ws, j ∈ vs) ∧ T K Γ1 tt (p x) ∧ (p x = true → E K Γ1 te (f x))) : E K Γ (tLc wi g tt te vs) (.lst ((xs.filter p).map f)) := fun I σ H as e l Q q =>
  hs I σ H as e l _ fun I1 H1 J g1 hw => fun Dd hD => by
    obtain ⟨Gc, Y, w, hg, hy⟩ := hw
    rw [List.length_map] at w hy
    have fresh1 : I1 Dd = none := g1.ih.free hD
    refine lc_it (Qd := fun H => Q (.ref Dd) H) w (fun i H => ∃ I' acc, Gr [] I1 H1 I' H ∧ I' Dd = none ∧ H Dd = some (.lst acc) ∧ Rps K I' acc (((xs.take i).filter p).map f) ∧ Lo K I' σ H as Γ)
      ⟨I1, [], Gr.junk g1.ih hD, fresh1, upd_same, by simp; exact .nil, (l.mono g1).mono (Gr.junk g1.ih hD)⟩ (fun i H _ ⟨I', acc, g2, _⟩ => hg I' H g2.i g2.ih) ?_ ?_
    · rintro i v H2 H3 hi ⟨I2, acc, g2, n2, a2, r2, l2⟩ y
      obtain ⟨I3, d, g3, hd, rx⟩ := hy i H2 v H3 I2 hi y g2.i g2.ih
      rw [List.getElem?_map] at hd
      obtain ⟨x, hx⟩ : ∃ x, xs[i]? = some x := by
        cases hx : xs[i]? with
        | none => rw [hx] at hd; cases hd
        | some x => exact ⟨x, rfl⟩
      rw [hx] at hd
      cases hd
      obtain ⟨ws, Γ1, tg, hws, t1, t2⟩ := ht i x hx
      have nn : H2 Dd ≠ none := by rw [a2]; exact nofun
      refine tg.run I3 (wipe σ vs) H3 as v g3.ih ((l2.mono g3).wipe vs) rx _ fun σ' l' k' n' => ⟨wipe_eq k' n' hws, ?_⟩
      refine t1 I3 σ' H3 as g3.ih l' _ fun I4 H4 g4 => ?_
      have g34 := g3.trans g4
      have htake : xs.take (i + 1) = xs.take i ++ [x] := by rw [List.take_add_one, hx]; rfl
      have hlen : ((xs.take (i + 1)).filter p).length ≤ xs.length := Nat.le_trans (List.length_filter_le _ _) (by rw [List.length_take]; omega)
      cases hp : p x with
      | true =>
        rw [if_pos rfl]
        refine t2 hp I4 σ' H4 as g4.ih (l'.mono g4) _ fun I5 H5 z g5 r5 => ?_
        have g345 := g34.trans g5
        refine ⟨acc, g345.ex _ _ a2, ?_, I5, _, (g2.trans g345).mut (g345.none_i n2 nn) (.inl hD), g345.none_i n2 nn, upd_same, ?_, ?_⟩
        · have := r2.length
          rw [this, List.length_map]
          have h3 : ((xs.take i).filter p).length ≤ xs.length := Nat.le_trans (List.length_filter_le _ _) (by rw [List.length_take]; omega)
          rw [sizeLine_eq]; omega
        · rw [htake, List.filter_append, List.map_append]
          refine (r2.mono g345.i).append ?_
          simp [hp]
          exact .one r5
        · refine ⟨fun j s hj => ?_, l2.ne, l2.len⟩
          have q1 := (l2.mono g345).at_ j s hj
          cases s with
          | im d => exact q1
          | mu d =>
            obtain ⟨e1, n1, o1, r1, r3⟩ := q1
            refine ⟨e1, n1, o1, ?_, r3⟩
            have : as j ≠ Dd := fun z => by
              obtain ⟨_, _, o, ho, _⟩ := l.at_ j _ hj
              rw [z] at ho
              rw [g1.ex _ _ ho] at hD
              cases hD
            rw [upd_ne this]; exact r1
      | false =>
        rw [if_neg Bool.false_ne_true]
        refine ⟨I4, acc, g2.trans g34, g34.none_i n2 nn, g34.ex _ _ a2, ?_, l2.mono g34⟩
        rw [htake, List.filter_append, List.map_append]
        simp [hp]
        exact r2.mono g34.i
    · rintro H2 ⟨I2, acc, g2, n2, a2, r2, _⟩
      rw [List.take_of_length_le (Nat.le_refl _)] at r2
      have g12 := g1.trans g2
      have hH : H Dd = none := g1.ex.free hD
      refine q _ _ _ (g12.frz n2 hH a2) (.lst upd_same (r2.mono (Ex.new n2)))
end

/-! ### defs -/
/-- the promise of a def that raises nothing and changes nothing: R arguments result -/
def spR (K : PySem.W.Frag) (R : List D → D → Prop) : Sp := fun vs H Q _ => ∃ (I : Hp) (ds : List D) (d : D), Ex I H ∧ Rps K I vs ds ∧ R ds d ∧ ∀ I' H' v, Gr [] I H I' H' → Rp K I' v d → Q v H'
section
variable {K : PySem.W.Frag} {Γ : Sl}
theorem e_call {R : List D → D → Prop} {dvs : List V} {dds : List D} {EE : XK} {ta : TA} {ds : List D} {d : D} (ha : EA K Γ ta ds) (hd : ∀ I, Rps K I dvs dds) (hr : R (ds ++ dds) d) : E K Γ (tCall (spR K R) dvs EE ta) d := fun I σ H as e l Q q =>
  ha I σ H as e l _ fun I1 H1 vs g1 r1 => ⟨I1, _, d, g1.ih, r1.append (hd _), hr, fun I2 H2 v g2 r2 => q I2 H2 v (g1.trans g2) r2⟩
theorem e_call0 {R : List D → D → Prop} {EE : XK} {ta : TA} {ds : List D} {d : D} (ha : EA K Γ ta ds) (hr : R ds d) : E K Γ (tCall (spR K R) [] EE ta) d := e_call (dds := []) ha (fun _ => .nil) (by rw [List.append_nil]; exact hr)
/-- the slots at a def's entry -/
def slots (N : List Str) (ds : List D) : Sl := ds.map (fun d => some (.im d)) ++ List.replicate (N.length - ds.length) none
theorem lo_start {I H : Hp} {N : List Str} {vs : List V} {ds : List D} (r : Rps K I vs ds) : Lo K I (L2.start N vs) H (fun _ => 0) (slots N ds) := by
  have nomu : ∀ (i : Nat) (d : D), (slots N ds)[i]? ≠ some (some (SV.mu d)) := fun i d h => by
    unfold slots at h
    rw [List.getElem?_append] at h
    split at h
    · rw [List.getElem?_map] at h
      cases q : ds[i]? with
      | none => rw [q] at h; cases h
      | some x => rw [q] at h; cases h
    · have := List.getElem?_eq_some_iff.mp h
      obtain ⟨a, b⟩ := this
      rw [List.getElem_replicate] at b
      cases b
  refine ⟨fun i s h => ?_, fun i j d e a _ => absurd a (nomu i d), ?_⟩
  · cases s with
    | mu d => exact absurd h (nomu i d)
    | im d =>
      unfold slots at h
      rw [List.getElem?_append] at h
      split at h
      · rename_i hlt
        rw [List.getElem?_map] at h
        cases q : ds[i]? with
        | none => rw [q] at h; cases h
        | some x =>
          rw [q] at h
          cases h
          obtain ⟨v, hv, rv⟩ := r.get q
          refine ⟨v, ?_, rv⟩
          unfold L2.start
          rw [List.getElem?_append_left (by rw [List.length_map]; exact (List.getElem?_eq_some_iff.mp hv).1), List.getElem?_map, hv]
          rfl
      · have := List.getElem?_eq_some_iff.mp h
        obtain ⟨a, b⟩ := this
        rw [List.getElem_replicate] at b
        cases b
  · unfold L2.start slots
    simp [r.length]
/-- THE RULE for such a def -/
theorem ok_of {P : Program} {w : World} {mg : Str → Option Value} {base : Heap} {x qual : Str} {st : Stmt} {f : Addr} {fd : FuncData} {N ps : List Str} {k : Nat} {R : List D → D → Prop} (F : Fun K x qual st f fd) (S : FnScope N ps (defScope st)) (hn : ∀ ds d, R ds d → ds.length = ps.length)
    (hb : ∀ (cdv : Value) (A : Around) (outer : List Env) (s : Shared) (H : Hp) (E : XK), Room k (A.deeper (PyProof.Rows.envOfC qual (defScope st) s.heap.objs.size f cdv)) →
      ∃ t, PSs (cxOf CX0 P w K mg base N qual (defScope st) f cdv A outer s H E).nox (defBody st) t ∧ ∀ (I H' : Hp) ds d, R ds d → B ⟨K, I, H', []⟩ (slots N ds) t ⟨fun _ => d = .non, fun e _ => e = d, fun _ => False, fun _ => False⟩) :
    FnOk P w K mg base CX0 (k + 1) f fd ps (spR K R) := by
  refine F.ok S (fun vs H Q E h => ?_) (fun cdv A outer s H vs Q E hr h => ?_)
  · obtain ⟨I, ds, d, _, r, hR, _⟩ := h
    rw [r.length]; exact hn ds d hR
  · obtain ⟨I, ds, d, e, r, hR, q⟩ := h
    obtain ⟨t, ht, hB⟩ := hb cdv A outer s H E hr
    refine ⟨t, ht, hB I H ds d hR I I _ H (fun _ => 0) _ (Ex.refl _) ⟨Gr.refl e, lo_start r, fun i d h => ?_, fun p hp => nomatch hp⟩ ⟨fun I1 σ1 H1 as Γ1 h1 _ a1 => ?_, fun I1 H1 Γ1 v e1 h1 _ g1 r1 _ => ?_, fun _ _ _ _ _ h => h.elim, fun _ _ _ _ _ h => h.elim⟩⟩
    · obtain ⟨_, _, o, _, _⟩ := (lo_start (N := N) (H := H) r).at_ i _ h
      exfalso
      unfold slots at h
      rw [List.getElem?_append] at h
      split at h
      · rw [List.getElem?_map] at h
        cases q : ds[i]? with
        | none => rw [q] at h; cases h
        | some x => rw [q] at h; cases h
      · obtain ⟨a, b⟩ := List.getElem?_eq_some_iff.mp h
        rw [List.getElem_replicate] at b
        cases b
    · have hd : d = .non := h1
      subst hd
      exact q I1 H1 .non a1.gr .non
    · have hd : e1 = d := h1
      subst hd
      exact q I1 H1 v g1 r1
end
end G

namespace G
open PySem PySem.Spec L2 PySem.SeqAt
open AutoSeq1 (wpAny_loadPart')
theorem dict_eq_declines_int (l : Addr) (o : Obj) (hc : o.cls = .type "dict") (b : Int) (u : Tok) :
    Meets (Builtin.«dict.__eq__» ⟨[.ref l, .int b u], []⟩) (fun _ R s => s.heap.get? l = some o ∧ R (.ok (.ret .notImplemented)) s) :=
  .of_wp fun prog w A R s h => by
    obtain ⟨hp, g, d, tk, os⟩ := s; obtain ⟨hl, h⟩ := h; have f1 := F.sub_int_dict
    obtain ⟨cls, dd, data, sl⟩ := o
    simp only at hc
    subst hc
    unfold Builtin.«dict.__eq__»
    wp_walk using wpAny_loadPart' hl, wpAny_load hl
    exact ⟨_, rfl, h⟩
theorem int_eq_declines_dict (b : Int) (u : Tok) (l : Addr) (o : Obj) (hc : o.cls = .type "dict") {es} {ep} (hd : o.data = .dict es ep) :
    Meets (Builtin.«int.__eq__» ⟨[.int b u, .ref l], []⟩) (fun _ R s => s.heap.get? l = some o ∧ R (.ok (.ret .notImplemented)) s) :=
  .of_wp fun prog w A R s h => by
    obtain ⟨hp, g, d, tk, os⟩ := s; obtain ⟨hl, h⟩ := h; have f1 := F.sub_dict_int
    obtain ⟨cls, dd, data, sl⟩ := o
    simp only at hc hd
    subst hc hd
    wp_walk using wpAny_loadPart' hl, wpAny_load hl
    exact ⟨_, rfl, h⟩
theorem rc_dict_int {A : Around} {s : Shared} {l : Addr} {o : Obj} {es} {ep} (b : Int) (u : Tok) (ho : s.heap.get? l = some o) (hc : o.cls = .type "dict") (hd : o.data = .dict es ep) (hu : A.units < cLine) : RcAt A s (.ref l) (.int b u) false := fun prog w E Q h => by
  obtain ⟨cls, dd, data, sl⟩ := o
  simp only at hc hd
  subst hc hd
  exact rc_eq_decline_or (k := false) ⟨_, ho, rfl⟩ (typeIs_int s b u) (by decide) F.sub_int_dict F.slot_dict_eq F.slot_int_eq_refl
    (fun _ hq => call_meets F.slot_dict_eq ⟨_, ho, rfl⟩ F.entry_dict_eq (F.args_dict_eq_2 _ _) (dict_eq_declines_int l _ rfl b u) ⟨ho, hq⟩)
    (fun _ hq => call_meets F.slot_int_eq_refl (typeIs_int s b u) F.entry_int_eq (F.args_int_eq_2 _ _) (int_eq_declines_dict b u l _ rfl rfl) ⟨ho, hq⟩)
    (fun _ hq => wpAny_of_eq (rfl : isSame (.ref l) (.int b u) = pure false) hq) (.inr hu) h
def rEqDi : R2 := fun x y H Q => ∃ a kvs j, x = .ref a ∧ H a = some (.dK kvs) ∧ y = .int j ∧ Q (.bl false) H
theorem op_eqDi {X : Cx} (hu : X.A.units + 64 < cLine) : OpR X (compareOp .Eq) rEqDi := by
  intro pins s σ H x y v u Q I rx ry h
  obtain ⟨a, kvs, j, rfl, e, rfl, q⟩ := h
  obtain rfl : v = Value.ref a := rx
  obtain ⟨t, rfl⟩ := (show ∃ t, u = Value.int j t from ry)
  obtain ⟨_, _, vs, _, o, es, ep, h1, h2, h3, _⟩ := (show ObjOk X.prog X.w H s.heap a (.dK kvs) from I.hok a _ e)
  exact (rc_dict_int j t h1 h2.1 h3 (by omega)) X.prog X.w _ _ ⟨.bl false, H, I, rfl, q⟩
end G

namespace G
open PySem L2

/-! ### rules that serve several kinds of values -/
section
variable {X : Cx}
theorem op_or {f : Value → Value → Sem Value} {r1 r2 : R2} (h1 : OpR X f r1) (h2 : OpR X f r2) : OpR X f (fun x y H Q => r1 x y H Q ∨ r2 x y H Q) := fun pins s σ H x y v u Q I rx ry h =>
  h.elim (fun h => h1 pins s σ H x y v u Q I rx ry h) (fun h => h2 pins s σ H x y v u Q I rx ry h)
theorem ca_or {f : Value} {r1 r2 : List V → Hp → VK → Prop} (h1 : CallR X f r1) (h2 : CallR X f r2) : CallR X f (fun x H Q => r1 x H Q ∨ r2 x H Q) := fun pins s σ H x u Q I rx h =>
  h.elim (fun h => h1 pins s σ H x u Q I rx h) (fun h => h2 pins s σ H x u Q I rx h)
theorem pi_or {tg it : Expr} {w1 w2 : TI} (h1 : PI X tg it w1) (h2 : PI X tg it w2) : PI X tg it (fun σ H R => w1 σ H R ∨ w2 σ H R) := ⟨fun pins s σ H R I h =>
  h.elim (fun h => h1.run pins s σ H R I h) (fun h => h2.run pins s σ H R I h)⟩
def rCatStr : R2 := fun x y H Q => ∃ i j, x = .str i ∧ y = .str j ∧ i.length + j.length ≤ sizeLine ∧ Q (.str (i ++ j)) H
def uAdd (K : PySem.W.Frag) : R2 := fun x y H Q => rI0 (fun i j => .int (i + j)) x y H Q ∨ (fun x y H Q => rCatStr x y H Q ∨ (fun x y H Q => rCat x y H Q ∨ rCatA K x y H Q) x y H Q) x y H Q
theorem op_uAdd : OpR X (binaryOp .Add) (uAdd X.K) := op_or op_add (op_or op_add_str (op_or op_cat op_catA))
def uMul : R2 := fun x y H Q => rI CMulW (fun i j => .int (i * j)) x y H Q ∨ rRep x y H Q
theorem op_uMul : OpR X (binaryOp .Mult) uMul := op_or op_mulW op_rep
def uEq (K : PySem.W.Frag) : R2 := fun x y H Q => rEq x y H Q ∨ (fun x y H Q => rEqD K x y H Q ∨ rEqDi x y H Q) x y H Q
def uNe (K : PySem.W.Frag) : R2 := fun x y H Q => rNe x y H Q ∨ rNeD K x y H Q
theorem op_uEq (hu : X.A.units + 64 < cLine) : OpR X (compareOp .Eq) (uEq X.K) := op_or op_eq (op_or (op_eqD hu) (op_eqDi hu))
theorem op_uNe (hu : X.A.units + 64 < cLine) : OpR X (compareOp .NotEq) (uNe X.K) := op_or op_ne (op_neD hu)
def rInSg : R2 := fun x y H Q => ∃ (c : Nat) (z : Str), x = .str ⟨#[c]⟩ ∧ y = .str z ∧ Q (.bl (decide (c ∈ z.cps.toList))) H
def rNiSg : R2 := fun x y H Q => ∃ (c : Nat) (z : Str), x = .str ⟨#[c]⟩ ∧ y = .str z ∧ Q (.bl (!decide (c ∈ z.cps.toList))) H
def uIn (K : PySem.W.Frag) : R2 := fun x y H Q => rInSg x y H Q ∨ rIn K false x y H Q
def uNi (K : PySem.W.Frag) : R2 := fun x y H Q => rNiSg x y H Q ∨ rIn K true x y H Q
theorem op_uIn : OpR X (compareOp .In) (uIn X.K) := op_or op_in_sign op_in_seq
theorem op_uNi : OpR X (compareOp .NotIn) (uNi X.K) := op_or op_notIn_sign op_notIn_seq
def uSl (K : PySem.W.Frag) : V → Option Int → Option Int → Hp → VK → Prop := fun x lo hi H Q => rSlL K x lo hi H Q ∨ (fun x lo hi H Q => rSlA K x lo hi H Q ∨ rSlS x lo hi H Q) x lo hi H Q
theorem sl_u : SlR X (uSl X.K) := sl_list.or (sl_tupA.or sl_str)
def rLn (K : PySem.W.Frag) : List V → Hp → VK → Prop := fun xs H Q => ∃ x n, xs = [x] ∧ LenV K x H n ∧ Q (.int n) H
def rLnD : List V → Hp → VK → Prop := fun xs H Q => ∃ a kvs, xs = [V.ref a] ∧ H a = some (.dK kvs) ∧ Q (.int kvs.length) H
def uLen (K : PySem.W.Frag) : List V → Hp → VK → Prop := fun x H Q => rLn K x H Q ∨ rLnD x H Q
theorem cr_uLen : CallR X (.builtin "len") (uLen X.K) := ca_or call_len call_lenD
/-- what is walked: a list, a tuple, a text -/
theorem pi_u {tg e : Expr} {te : TE} (he : PE X e te) : PI X tg e (fun σ H R => iList X.K te σ H R ∨ (fun σ H R => iTup X.K te σ H R ∨ iStr te σ H R) σ H R) := pi_or (pi_list he) (pi_or (pi_tup he) (pi_str he))
end

/-! ### what they give -/
section
variable {K : PySem.W.Frag} {Γ : Sl}
theorem bin_add_int {i j : Int} : Bin K (uAdd K) (.int i) (.int j) (.int (i + j)) := fun I H u v e r1 r2 Q q => by
  cases r1; cases r2
  exact .inl ⟨i, j, rfl, rfl, q I H _ (Gr.refl e) (.int _)⟩
theorem bin_add_str {x y : Str} (hl : x.length + y.length ≤ sizeLine) : Bin K (uAdd K) (.str x) (.str y) (.str (x ++ y)) := fun I H u v e r1 r2 Q q => by
  cases r1; cases r2
  exact .inr (.inl ⟨x, y, rfl, rfl, hl, q I H _ (Gr.refl e) (.str _)⟩)
theorem bin_add_lst {xs ys : List D} (hl : xs.length + ys.length ≤ sizeLine) : Bin K (uAdd K) (.lst xs) (.lst ys) (.lst (xs ++ ys)) := fun I H u v e r1 r2 Q q => by
  cases r1 with
  | lst a b =>
    cases r2 with
    | lst a2 b2 =>
      refine .inr (.inr (.inl ⟨_, _, _, _, rfl, rfl, e _ _ a, e _ _ a2, by rw [b.length, b2.length]; exact hl, fun p hp => ?_⟩))
      exact q _ _ _ (Gr.new e hp) (.lst upd_same ((b.append b2).mono (Ex.new (e.free hp))))
theorem Rps.nil_iff {I : Hp} {vs : List V} {ds : List D} (r : Rps K I vs ds) : vs = [] ↔ ds = [] := by cases r <;> simp
theorem bin_add_tup {xs ys : List D} (hl : xs.length + ys.length ≤ sizeLine) : Bin K (uAdd K) (.tup xs) (.tup ys) (.tup (xs ++ ys)) := fun I H u v e r1 r2 Q q => by
  cases r1 with
  | tup a b =>
    cases r2 with
    | tup a2 b2 =>
      refine .inr (.inr (.inr ⟨_, _, _, _, rfl, rfl, ex_t e a, ex_t e a2, by rw [b.length, b2.length]; exact hl, fun h => ?_, fun _ h => ?_, fun _ _ p hp => ?_⟩))
      · have := b.nil_iff.mp h; subst this
        exact q I H _ (Gr.refl e) (.tup a2 b2)
      · have := b2.nil_iff.mp h; subst this
        rw [List.append_nil] at q
        exact q I H _ (Gr.refl e) (.tup a b)
      · exact q _ _ _ (Gr.new e hp) (.tup (.inl (.inl upd_same)) ((b.append b2).mono (Ex.new (e.free hp))))
theorem bin_sub {i j : Int} : Bin K (rI0 fun i j => .int (i - j)) (.int i) (.int j) (.int (i - j)) := fun I H u v e r1 r2 Q q => by
  cases r1; cases r2
  exact ⟨i, j, rfl, rfl, q I H _ (Gr.refl e) (.int _)⟩
theorem bin_I0 {g : Int → Int → Int} {i j : Int} : Bin K (rI0 fun i j => .int (g i j)) (.int i) (.int j) (.int (g i j)) := fun I H u v e r1 r2 Q q => by
  cases r1; cases r2
  exact ⟨i, j, rfl, rfl, q I H _ (Gr.refl e) (.int _)⟩
theorem bin_I {P : Int → Int → Prop} {g : Int → Int → Int} {i j : Int} (h : P i j) : Bin K (rI P fun i j => .int (g i j)) (.int i) (.int j) (.int (g i j)) := fun I H u v e r1 r2 Q q => by
  cases r1; cases r2
  exact ⟨i, j, rfl, rfl, h, q I H _ (Gr.refl e) (.int _)⟩
theorem bin_mul {i j : Int} (h : i.natAbs.log2 + j.natAbs.log2 < 1000000) : Bin K uMul (.int i) (.int j) (.int (i * j)) := fun I H u v e r1 r2 Q q => by
  cases r1; cases r2
  exact .inl ⟨i, j, rfl, rfl, h, q I H _ (Gr.refl e) (.int _)⟩
theorem bin_rep {xs : List D} {n : Int} (h0 : -(2 ^ 63) ≤ n) (h1 : n < 2 ^ 63) (hl : xs.length * n.toNat ≤ sizeLine) : Bin K uMul (.lst xs) (.int n) (.lst (List.replicate n.toNat xs).flatten) := fun I H u v e r1 r2 Q q => by
  cases r1 with
  | lst a b =>
    cases r2
    refine .inr ⟨_, _, _, rfl, rfl, e _ _ a, h0, h1, by rw [b.length]; exact hl, fun p hp => ?_⟩
    refine q _ _ _ (Gr.new e hp) (.lst upd_same ?_)
    have key : ∀ m : Nat, Rps K I (List.replicate m _).flatten (List.replicate m xs).flatten := fun m => by
      induction m with
      | zero => exact .nil
      | succ m ih => rw [List.replicate_succ, List.replicate_succ, List.flatten_cons, List.flatten_cons]; exact b.append ih
    exact (key n.toNat).mono (Ex.new (e.free hp))
/-! comparisons -/
theorem bin_cmpI {p : Int → Int → Bool} {i j : Int} : Bin K (rI0 fun i j => .bl (p i j)) (.int i) (.int j) (.bl (p i j)) := fun I H u v e r1 r2 Q q => by
  cases r1; cases r2
  exact ⟨i, j, rfl, rfl, q I H _ (Gr.refl e) (.bl _)⟩
theorem bin_eq_int {i j : Int} : Bin K (uEq K) (.int i) (.int j) (.bl (decide (i = j))) := fun I H u v e r1 r2 Q q => by
  cases r1; cases r2
  refine .inl ⟨rfl, ?_⟩
  have : decide (V.int i = V.int j) = decide (i = j) := by simp
  rw [this]; exact q I H _ (Gr.refl e) (.bl _)
theorem bin_eq_str {i j : Str} : Bin K (uEq K) (.str i) (.str j) (.bl (decide (i = j))) := fun I H u v e r1 r2 Q q => by
  cases r1; cases r2
  refine .inl ⟨rfl, ?_⟩
  have : decide (V.str i = V.str j) = decide (i = j) := by simp
  rw [this]; exact q I H _ (Gr.refl e) (.bl _)
theorem bin_eq_bl {i j : Bool} : Bin K (uEq K) (.bl i) (.bl j) (.bl (decide (i = j))) := fun I H u v e r1 r2 Q q => by
  cases r1; cases r2
  refine .inl ⟨rfl, ?_⟩
  have : decide (V.bl i = V.bl j) = decide (i = j) := by simp
  rw [this]; exact q I H _ (Gr.refl e) (.bl _)
theorem bin_ne_int {i j : Int} : Bin K (uNe K) (.int i) (.int j) (.bl (!decide (i = j))) := fun I H u v e r1 r2 Q q => by
  cases r1; cases r2
  refine .inl ⟨rfl, ?_⟩
  have : decide (V.int i = V.int j) = decide (i = j) := by simp
  rw [this]; exact q I H _ (Gr.refl e) (.bl _)
theorem bin_ne_str {i j : Str} : Bin K (uNe K) (.str i) (.str j) (.bl (!decide (i = j))) := fun I H u v e r1 r2 Q q => by
  cases r1; cases r2
  refine .inl ⟨rfl, ?_⟩
  have : decide (V.str i = V.str j) = decide (i = j) := by simp
  rw [this]; exact q I H _ (Gr.refl e) (.bl _)
theorem bin_ne_bl {i j : Bool} : Bin K (uNe K) (.bl i) (.bl j) (.bl (!decide (i = j))) := fun I H u v e r1 r2 Q q => by
  cases r1; cases r2
  refine .inl ⟨rfl, ?_⟩
  have : decide (V.bl i = V.bl j) = decide (i = j) := by simp
  rw [this]; exact q I H _ (Gr.refl e) (.bl _)
/-! data for == at any depth -/
mutual
def toP : D → PyData
  | .non => .none
  | .bl b => .bool b
  | .int i => .int i
  | .str s => .str s
  | .lst ds => .list (toPs ds)
  | .fl ds => .list (toPs ds)
  | .tup ds => .tuple (toPs ds)
  | _ => .none
def toPs : List D → List PyData
  | [] => []
  | d :: ds => toP d :: toPs ds
end
mutual
/-- data that == may be asked of -/
def isP : D → Bool
  | .non => true
  | .bl _ => true
  | .int _ => true
  | .str _ => true
  | .lst ds => isPs ds
  | .fl ds => isPs ds
  | .tup ds => isPs ds
  | _ => false
def isPs : List D → Bool
  | [] => true
  | d :: ds => isP d && isPs ds
end
mutual
theorem dp_of {I : Hp} : ∀ {v : V} {d : D}, Rp K I v d → isP d = true → Dp K I v (toP d)
  | _, _, .non, _ => by rw [toP]; exact .non
  | _, _, .bl b, _ => by rw [toP]; exact .bl b
  | _, _, .int i, _ => by rw [toP]; exact .int i
  | _, _, .str x, _ => by rw [toP]; exact .str x
  | _, _, .lst h r, p => by rw [toP]; exact .lst (.inl (.inl h)) (dps_of r (by simpa [isP] using p))
  | _, _, .fl h r, p => by rw [toP]; exact .lst h (dps_of r (by simpa [isP] using p))
  | _, _, .tup h r, p => by rw [toP]; exact .tup h (dps_of r (by simpa [isP] using p))
  | _, _, .dic _ _ _, p => by simp [isP] at p
  | _, _, .obj _ _ _, p => by simp [isP] at p
  | _, _, .ty _, p => by simp [isP] at p
  | _, _, .ref _, p => by simp [isP] at p
theorem dps_of {I : Hp} : ∀ {vs : List V} {ds : List D}, Rps K I vs ds → isPs ds = true → DpAll K I vs (toPs ds)
  | _, _, .nil, _ => by rw [toPs]; exact .nil
  | _, _, .cons h r, p => by
    rw [isPs, Bool.and_eq_true] at p
    rw [toPs]; exact .cons (dp_of h p.1) (dps_of r p.2)
end
theorem Dp.mono' {I H : Hp} (e : Ex I H) : ∀ {p : PyData} {v : V}, Dp K I v p → Dp K H v p
  | _, _, .non => .non
  | _, _, .bl b => .bl b
  | _, _, .int b => .int b
  | _, _, .str b => .str b
  | _, _, .lst h r => .lst (ex_l e h) (DpAll.mono'' e r)
  | _, _, .tup h r => .tup (ex_t e h) (DpAll.mono'' e r)
where
  DpAll.mono'' {I H : Hp} (e : Ex I H) : ∀ {p : List PyData} {v : List V}, DpAll K I v p → DpAll K H v p
  | _, _, .nil => .nil
  | _, _, .cons h r => .cons (Dp.mono' e h) (DpAll.mono'' e r)

theorem bin_eqD {x y : D} (hx : isP x = true) (hy : isP y = true) (sx : SeqAt.shaped (toP x) = true) (sy : SeqAt.shaped (toP y) = true) : Bin K (uEq K) x y (.bl (PyData.eqv (toP x) (toP y))) := fun I H u v e r1 r2 Q q =>
  .inr (.inl ⟨_, _, Dp.mono' e (dp_of r1 hx), Dp.mono' e (dp_of r2 hy), sx, sy, q I H _ (Gr.refl e) (.bl _)⟩)
theorem bin_eq_di {ks : List Key} {ds : List D} {j : Int} : Bin K (uEq K) (.dic ks ds) (.int j) (.bl false) := fun I H u v e r1 r2 Q q => by
  cases r1 with
  | dic a _ _ =>
    cases r2
    exact .inr (.inr ⟨_, _, j, rfl, e _ _ a, rfl, q I H _ (Gr.refl e) (.bl _)⟩)
theorem bin_neD {x y : D} (hx : isP x = true) (hy : isP y = true) (sx : SeqAt.shaped (toP x) = true) (sy : SeqAt.shaped (toP y) = true) : Bin K (uNe K) x y (.bl (!PyData.eqv (toP x) (toP y))) := fun I H u v e r1 r2 Q q =>
  .inr ⟨_, _, Dp.mono' e (dp_of r1 hx), Dp.mono' e (dp_of r2 hy), sx, sy, q I H _ (Gr.refl e) (.bl _)⟩
/-! in -/
theorem bin_in_sg {c : Nat} {z : Str} : Bin K (uIn K) (.str ⟨#[c]⟩) (.str z) (.bl (decide (c ∈ z.cps.toList))) := fun I H u v e r1 r2 Q q => by
  cases r1; cases r2
  exact .inl ⟨c, z, rfl, rfl, q I H _ (Gr.refl e) (.bl _)⟩
theorem bin_ni_sg {c : Nat} {z : Str} : Bin K (uNi K) (.str ⟨#[c]⟩) (.str z) (.bl (!decide (c ∈ z.cps.toList))) := fun I H u v e r1 r2 Q q => by
  cases r1; cases r2
  exact .inl ⟨c, z, rfl, rfl, q I H _ (Gr.refl e) (.bl _)⟩
def flatD : D → Bool
  | .non => true
  | .bl _ => true
  | .int _ => true
  | .str _ => true
  | _ => false
def toV : D → V
  | .bl b => .bl b
  | .int i => .int i
  | .str s => .str s
  | _ => .non
theorem rp_toV {I : Hp} {v : V} {d : D} (r : Rp K I v d) (f : flatD d = true) : v = toV d ∧ flatV v = true := by
  cases r <;> first | exact ⟨rfl, rfl⟩ | cases f
theorem rps_toV {I : Hp} : ∀ {vs : List V} {ds : List D}, Rps K I vs ds → ds.all flatD = true → vs = ds.map toV ∧ vs.all flatV = true
  | _, _, .nil, _ => ⟨rfl, rfl⟩
  | _, _, .cons h r, f => by
    rw [List.all_cons, Bool.and_eq_true] at f
    obtain ⟨a, b⟩ := rp_toV h f.1
    obtain ⟨c, d⟩ := rps_toV r f.2
    exact ⟨by rw [a, c]; rfl, by rw [List.all_cons, b, d]; rfl⟩
/-- x in xs of flat data -/
def inD (x : D) (xs : List D) : Bool := xs.any fun y => eqV (toV y) (toV x)
theorem inV_eq {x : D} {xs : List D} : inV (toV x) (xs.map toV) = inD x xs := by unfold inV inD; rw [List.any_map]; rfl
theorem bin_in_l {x y : D} {ds : List D} (hl : LD y ds) (hx : flatD x = true) (hf : ds.all flatD = true) : Bin K (uIn K) x y (.bl (inD x ds)) := fun I H u v e r1 r2 Q q => by
  obtain ⟨a, vs, rfl, hs, hr⟩ := r2.l hl
  obtain ⟨rfl, b1⟩ := rp_toV r1 hx
  obtain ⟨rfl, b2⟩ := rps_toV hr hf
  refine .inr ⟨a, _, rfl, .inl (ex_l e hs), b1, b2, ?_⟩
  rw [if_neg Bool.false_ne_true, inV_eq]
  exact q I H _ (Gr.refl e) (.bl _)
theorem bin_ni_l {x y : D} {ds : List D} (hl : LD y ds) (hx : flatD x = true) (hf : ds.all flatD = true) : Bin K (uNi K) x y (.bl (!inD x ds)) := fun I H u v e r1 r2 Q q => by
  obtain ⟨a, vs, rfl, hs, hr⟩ := r2.l hl
  obtain ⟨rfl, b1⟩ := rp_toV r1 hx
  obtain ⟨rfl, b2⟩ := rps_toV hr hf
  refine .inr ⟨a, _, rfl, .inl (ex_l e hs), b1, b2, ?_⟩
  rw [if_pos rfl, inV_eq]
  exact q I H _ (Gr.refl e) (.bl _)
theorem bin_in_t {x : D} {ds : List D} (hx : flatD x = true) (hf : ds.all flatD = true) : Bin K (uIn K) x (.tup ds) (.bl (inD x ds)) := fun I H u v e r1 r2 Q q => by
  cases r2 with
  | tup hs hr =>
    obtain ⟨rfl, b1⟩ := rp_toV r1 hx
    obtain ⟨rfl, b2⟩ := rps_toV hr hf
    refine .inr ⟨_, _, rfl, .inr (ex_t e hs), b1, b2, ?_⟩
    rw [if_neg Bool.false_ne_true, inV_eq]
    exact q I H _ (Gr.refl e) (.bl _)
theorem bin_ni_t {x : D} {ds : List D} (hx : flatD x = true) (hf : ds.all flatD = true) : Bin K (uNi K) x (.tup ds) (.bl (!inD x ds)) := fun I H u v e r1 r2 Q q => by
  cases r2 with
  | tup hs hr =>
    obtain ⟨rfl, b1⟩ := rp_toV r1 hx
    obtain ⟨rfl, b2⟩ := rps_toV hr hf
    refine .inr ⟨_, _, rfl, .inr (ex_t e hs), b1, b2, ?_⟩
    rw [if_pos rfl, inV_eq]
    exact q I H _ (Gr.refl e) (.bl _)
/-! items -/
theorem rps_at {I : Hp} {vs : List V} {ds : List D} {i : Int} {d : D} (r : Rps K I vs ds) (h : atI ds i = some d) : ∃ v, atI vs i = some v ∧ Rp K I v d := by
  unfold atI at h ⊢
  rw [r.length]
  cases hx : ixN ds.length i with
  | none => rw [hx] at h; cases h
  | some j =>
    rw [hx] at h
    exact r.get (i := j) h
theorem bin_ix_l {x d : D} {ds : List D} {i : Int} (hl : LD x ds) (h : atI ds i = some d) : Bin K (rIx K) x (.int i) d := fun I H u v e r1 r2 Q q => by
  obtain ⟨a, vs, rfl, hs, hr⟩ := r1.l hl
  cases r2
  obtain ⟨w, hw, rw'⟩ := rps_at hr h
  exact .inl ⟨a, vs, i, w, rfl, rfl, ex_l e hs, hw, q I H _ (Gr.refl e) rw'⟩
theorem bin_ix_t {d : D} {ds : List D} {i : Int} (h : atI ds i = some d) : Bin K (rIx K) (.tup ds) (.int i) d := fun I H u v e r1 r2 Q q => by
  cases r1 with
  | tup hs hr =>
    cases r2
    obtain ⟨w, hw, rw'⟩ := rps_at hr h
    exact .inr (.inl ⟨_, _, i, w, rfl, rfl, ex_t e hs, hw, q I H _ (Gr.refl e) rw'⟩)
theorem bin_ix_s {z : Str} {c : Nat} {i : Int} (hl : z.length ≤ sizeLine) (h : atI z.cps.toList i = some c) : Bin K (rIx K) (.str z) (.int i) (.str ⟨#[c]⟩) := fun I H u v e r1 r2 Q q => by
  cases r1; cases r2
  exact .inr (.inr ⟨z, i, c, rfl, rfl, hl, h, q I H _ (Gr.refl e) (.str _)⟩)
/-- an item of a list that may change -/
theorem e_ixC {ta tb : TE} {ds : List D} {i : Int} {d : D} (ha : C K Γ ta ds) (hb : E K Γ tb (.int i)) (h : atI ds i = some d) : E K Γ (tOp (rIx K) ta tb) d := fun I σ H as e l Q q =>
  ha I σ H as e l _ fun I1 H1 a vs g1 hs r1 => hb I1 σ H1 as g1.ih (l.mono g1) _ fun I2 H2 w g2 r2 => by
    cases r2
    obtain ⟨w, hw, rw'⟩ := rps_at r1 h
    exact .inl ⟨a, vs, i, w, rfl, rfl, ex_l g2.ex hs, hw, q I2 H2 w (g1.trans g2) (rw'.mono g2.i)⟩
/-! slices -/
def cutD (xs : List D) (lo hi : Option Int) : List D := (xs.drop (HT.sIx xs.length 0 lo)).take (HT.sIx xs.length xs.length hi - HT.sIx xs.length 0 lo)
theorem rps_cut {I : Hp} {vs : List V} {ds : List D} {lo hi : Option Int} (r : Rps K I vs ds) : Rps K I (cutV vs lo hi) (cutD ds lo hi) := by
  unfold cutV cutD
  rw [r.length]
  exact (r.drop _).take _
theorem eo_none : EO K Γ tNoPart none := fun I σ H as e l Q q => q I H (Gr.refl e)
theorem eo_some {te : TE} {i : Int} (h : E K Γ te (.int i)) : EO K Γ (tPart te) (some i) := fun I σ H as e l Q q => h I σ H as e l _ fun I1 H1 v g1 r1 => by
  cases r1
  exact ⟨i, rfl, q I1 H1 g1⟩
theorem e_slC {te : TE} {tl th : TO} {ds : List D} {lo hi : Option Int} (h : C K Γ te ds) (h1 : EO K Γ tl lo) (h2 : EO K Γ th hi) : E K Γ (tSl (uSl K) te tl th) (.lst (cutD ds lo hi)) := fun I σ H as e l Q q =>
  h I σ H as e l _ fun I1 H1 a vs g1 hs r1 => h1 I1 σ H1 as g1.ih (l.mono g1) _ fun I2 H2 g2 => h2 I2 σ H2 as g2.ih (l.mono (g1.trans g2)) _ fun I3 H3 g3 => by
    refine .inl ⟨a, vs, rfl, ex_l (g2.trans g3).ex hs, fun p hp => ?_⟩
    have g := (g1.trans g2).trans g3
    exact q _ _ _ (g.trans (Gr.new g.ih hp)) (.lst upd_same ((rps_cut (r1.mono (g2.trans g3).i)).mono (Ex.new (g.ih.free hp))))
theorem e_sl_l {te : TE} {tl th : TO} {d : D} {ds : List D} {lo hi : Option Int} (h : E K Γ te d) (hl : LD d ds) (h1 : EO K Γ tl lo) (h2 : EO K Γ th hi) : E K Γ (tSl (uSl K) te tl th) (.lst (cutD ds lo hi)) := e_slC (h.c hl) h1 h2
theorem e_sl_s {te : TE} {tl th : TO} {z : Str} {lo hi : Option Int} (h : E K Γ te (.str z)) (h1 : EO K Γ tl lo) (h2 : EO K Γ th hi) (hl : z.length ≤ sizeLine) : E K Γ (tSl (uSl K) te tl th) (.str (cutS z lo hi)) := fun I σ H as e l Q q =>
  h I σ H as e l _ fun I1 H1 v g1 r1 => h1 I1 σ H1 as g1.ih (l.mono g1) _ fun I2 H2 g2 => h2 I2 σ H2 as g2.ih (l.mono (g1.trans g2)) _ fun I3 H3 g3 => by
    cases r1
    exact .inr (.inr ⟨z, rfl, hl, q I3 H3 _ ((g1.trans g2).trans g3) (.str _)⟩)
theorem e_sl_t {te : TE} {tl th : TO} {ds : List D} {lo hi : Option Int} (h : E K Γ te (.tup ds)) (h1 : EO K Γ tl lo) (h2 : EO K Γ th hi) : E K Γ (tSl (uSl K) te tl th) (.tup (cutD ds lo hi)) := fun I σ H as e l Q q =>
  h I σ H as e l _ fun I1 H1 v g1 r1 => h1 I1 σ H1 as g1.ih (l.mono g1) _ fun I2 H2 g2 => h2 I2 σ H2 as g2.ih (l.mono (g1.trans g2)) _ fun I3 H3 g3 => by
    cases r1 with
    | @tup a vs _ hs hr =>
      have g := (g1.trans g2).trans g3
      have hs3 := ex_t (g2.trans g3).i hs
      have hr3 := hr.mono (g2.trans g3).i
      refine .inr (.inl ⟨a, vs, rfl, ex_t g3.ih hs3, fun hw => ?_, fun _ p hp => ?_⟩)
      · have : cutD ds lo hi = ds := by
          unfold cutD
          rw [← hr.length, hw.1, hw.2, List.drop_zero, Nat.sub_zero, hr.length]
          exact List.take_length
        rw [this] at q
        exact q I3 H3 _ g (.tup hs3 hr3)
      · exact q _ _ _ (g.trans (Gr.new g.ih hp)) (.tup (.inl (.inl upd_same)) ((rps_cut hr3).mono (Ex.new (g.ih.free hp))))
/-! built-in functions -/
theorem ca_len_s {z : Str} (hl : z.length ≤ sizeLine) : Ca K (uLen K) [.str z] (.int z.length) := fun I H us e r Q q => by
  cases r with
  | cons a b =>
    cases b; cases a
    exact .inl ⟨_, z.length, rfl, ⟨hl, rfl⟩, q I H _ (Gr.refl e) (.int _)⟩
theorem ca_len_l {d : D} {ds : List D} (hl : LD d ds) : Ca K (uLen K) [d] (.int ds.length) := fun I H us e r Q q => by
  cases r with
  | cons a b =>
    cases b
    obtain ⟨a, vs, rfl, hs, hr⟩ := a.l hl
    exact .inl ⟨_, ds.length, rfl, .inl ⟨vs, ex_l e hs, hr.length.symm⟩, q I H _ (Gr.refl e) (.int _)⟩
theorem ca_len_t {ds : List D} : Ca K (uLen K) [.tup ds] (.int ds.length) := fun I H us e r Q q => by
  cases r with
  | cons a b =>
    cases b
    cases a with
    | tup hs hr => exact .inl ⟨_, ds.length, rfl, .inr ⟨_, ex_t e hs, hr.length.symm⟩, q I H _ (Gr.refl e) (.int _)⟩
theorem ca_len_d {ks : List Key} {ds : List D} : Ca K (uLen K) [.dic ks ds] (.int ks.length) := fun I H us e r Q q => by
  cases r with
  | cons a b =>
    cases b
    cases a with
    | @dic _ _ vs _ h1 h2 h3 =>
      refine .inr ⟨_, _, rfl, e _ _ h1, ?_⟩
      have : (ks.zip vs).length = ks.length := by rw [List.length_zip, ← h2]; omega
      rw [this]
      exact q I H _ (Gr.refl e) (.int _)
theorem e_lenC {te : TE} {ds : List D} (h : C K Γ te ds) : E K Γ (tCB (uLen K) (tCons te tNil)) (.int ds.length) := fun I σ H as e l Q q =>
  h I σ H as e l _ fun I1 H1 a vs g1 hs r1 => .inl ⟨_, ds.length, rfl, .inl ⟨vs, hs, r1.length.symm⟩, q I1 H1 _ g1 (.int _)⟩
theorem ca_all {d : D} {bs : List Bool} (hl : LD d (bs.map D.bl)) : Ca K (rAll K) [d] (.bl (bs.all id)) := fun I H us e r Q q => by
  cases r with
  | cons a b =>
    cases b
    obtain ⟨p, vs, rfl, hs, hr⟩ := a.l hl
    rw [rps_bls hr] at hs
    exact ⟨p, bs, rfl, ex_l e hs, q I H _ (Gr.refl e) (.bl _)⟩
theorem ca_any {d : D} {bs : List Bool} (hl : LD d (bs.map D.bl)) : Ca K (rAny K) [d] (.bl (bs.any id)) := fun I H us e r Q q => by
  cases r with
  | cons a b =>
    cases b
    obtain ⟨p, vs, rfl, hs, hr⟩ := a.l hl
    rw [rps_bls hr] at hs
    exact ⟨p, bs, rfl, ex_l e hs, q I H _ (Gr.refl e) (.bl _)⟩
theorem ca_max2 {i j : Int} : Ca K (fun xs H Q => ∃ i j, xs = [.int i, .int j] ∧ Q (.int (if j > i then j else i)) H) [.int i, .int j] (.int (if j > i then j else i)) := fun I H us e r Q q => by
  cases r with
  | cons a b =>
    cases a
    cases b with
    | cons b c =>
      cases b; cases c
      exact ⟨i, j, rfl, q I H _ (Gr.refl e) (.int _)⟩
theorem ca_min2 {i j : Int} : Ca K (fun xs H Q => ∃ i j, xs = [.int i, .int j] ∧ Q (.int (if j < i then j else i)) H) [.int i, .int j] (.int (if j < i then j else i)) := fun I H us e r Q q => by
  cases r with
  | cons a b =>
    cases a
    cases b with
    | cons b c =>
      cases b; cases c
      exact ⟨i, j, rfl, q I H _ (Gr.refl e) (.int _)⟩
/-- the built-in class of data -/
def tyD : D → String
  | .non => "NoneType"
  | .bl _ => "bool"
  | .int _ => "int"
  | .str _ => "str"
  | .lst _ => "list"
  | .fl _ => "list"
  | .tup _ => "tuple"
  | .dic _ _ => "dict"
  | _ => "?"
theorem tyx_of {I H : Hp} {v : V} {d : D} (e : Ex I H) (r : Rp K I v d) (h : tyD d ≠ "?") : TyX K H v (.type (tyD d)) := by
  cases r with
  | non => exact .base .non
  | bl b => exact .base (.bl b)
  | int b => exact .base (.int b)
  | str b => exact .base (.str b)
  | lst a r => exact .base (.lst (e _ _ a))
  | fl a r =>
    rcases a with (a | ⟨o, a⟩) | ⟨o, its, n, h1, h2, _⟩
    · exact .base (.lst (e _ _ a))
    · exact .base (.frz (e _ _ a))
    · exact .kList h1 h2
  | tup a r =>
    rcases a with (a | ⟨o, a⟩) | ⟨o, its, n, h1, h2, _⟩
    · exact .base (.tup (e _ _ a))
    · exact .fTuple (e _ _ a)
    · exact .kTuple h1 h2
  | dic a => exact .base (.dK (e _ _ a))
  | _ => exact absurd rfl h
theorem ca_isi {d : D} {n : String} {b : Bool} (h : tyD d ≠ "?") (hk : kitB (tyD d) n = some b) : Ca K (rIsi K) [d, .ty n] (.bl b) := fun I H us e r Q q => by
  cases r with
  | cons a r =>
    cases r with
    | cons c r =>
      cases r
      cases c
      exact ⟨_, _, _, _, b, rfl, .ty n, tyx_of e a h, kit_ty hk, q I H _ (Gr.refl e) (.bl _)⟩
theorem e_ty {n : String} : E K Γ (tC (.ty n)) (.ty n) := fun I σ H as e _ Q q => q I H _ (Gr.refl e) (.ty n)
theorem un_neg' {i : Int} : Un1 K (rU fun i => .int (-i)) (.int i) (.int (-i)) := fun I H u e r Q q => by
  cases r
  exact ⟨i, rfl, q I H _ (Gr.refl e) (.int _)⟩
/-! texts -/
def rJoin (K : PySem.W.Frag) : V → List V → Hp → VK → Prop := fun x xs H Q => ∃ a p, ∃ ys : List Str, x = .str a ∧ xs = [.ref p] ∧ (SqL K H p (ys.map V.str) ∨ SqT K H p (ys.map V.str)) ∧
      (ys.map (·.length)).sum + ys.length * a.length ≤ 16777216 ∧ Q (.str (Txt.join a ys)) H
theorem e_join {to te : TE} {a : Str} {ys : List Str} (ho : E K Γ to (.str a)) (h : C K Γ te (ys.map D.str)) (hl : (ys.map (·.length)).sum + ys.length * a.length ≤ 16777216) : E K Γ (tM1 (rJoin K) to te) (.str (Txt.join a ys)) := fun I σ H as e l Q q =>
  ho I σ H as e l _ fun I1 H1 v g1 r1 => by
    cases r1
    refine ⟨⟨a, rfl⟩, h I1 σ H1 as g1.ih (l.mono g1) _ fun I2 H2 p vs g2 hs r2 => ?_⟩
    rw [rps_strs r2] at hs
    exact ⟨a, p, ys, rfl, rfl, .inl hs, hl, q I2 H2 _ (g1.trans g2) (.str _)⟩
/-! chains -/
theorem e_chain {r r' : R2} {ta tb tc : TE} {x y z : D} {b b' : Bool} (ha : E K Γ ta x) (hb : E K Γ tb y) (hc : b = true → E K Γ tc z) (h1 : Bin K r x y (.bl b)) (h2 : b = true → Bin K r' y z (.bl b')) : E K Γ (tChain r r' ta tb tc) (.bl (b && b')) := fun I σ H as e l Q q =>
  ha I σ H as e l _ fun I1 H1 u g1 r1 => hb I1 σ H1 as g1.ih (l.mono g1) _ fun I2 H2 v g2 r2 => h1 I2 H2 u v g2.ih (r1.mono g2.i) r2 _ fun I3 H3 w g3 r3 => by
    cases r3
    refine ⟨b, rfl, ?_⟩
    have g := (g1.trans g2).trans g3
    cases b with
    | true =>
      refine hc rfl I3 σ H3 as g.ih (l.mono g) _ fun I4 H4 w g4 r4 => ?_
      exact h2 rfl I4 H4 v w g4.ih (r2.mono (g3.trans g4).i) r4 _ fun I5 H5 x g5 r5 => q I5 H5 x ((g.trans g4).trans g5) r5
    | false => exact q I3 H3 _ g (.bl false)
end
end G

namespace G
open PySem PySem.Spec L2
/-- where a def of the text stands -/
structure DefAt (K : PySem.W.Frag) (mg : Str → Option Value) (x qual : Str) (st : Stmt) (ps : List Str) : Prop where
  ex : ∃ f fd, Fun K x qual st f fd ∧ mg x = some (.ref f) ∧ Binds K fd ps []
/-- a def of the text that keeps a promise -/
structure Callee (P : Program) (w : World) (K : PySem.W.Frag) (mg : Str → Option Value) (base : Heap) (x : Str) (k : Nat) (ps : List Str) (R : List D → D → Prop) : Prop where
  ex : ∃ f fd, FnOk P w K mg base CX0 k f fd ps (spR K R) ∧ mg x = some (.ref f) ∧ PySem.W.keepIn K (.ref f) = true ∧ Binds K fd ps [] ∧ ∃ (oc : Value) (od : Option Addr) (osl : Array (Option Value)), K.lookup f = some ⟨oc, od, .func fd, osl⟩
section
variable {X : Cx} {x : Str} {j k : Nat} {ps : List Str} {R : List D → D → Prop} {p pos : Pos} {e : Expr} {es : List Expr} {t : TA}
theorem pe_callC (c : Callee X.prog X.w X.K X.mg X.base x k ps R) (hr : Room j X.A) (hk : k ≤ j) (hg : Gl X x) (ha : PA X (e :: es) t) (hdb : (x == ("__debug__" : Str)) = false := by decide)
    (he : starEach (e :: es) X.env = (false, eval e X.env) :: starEach es X.env := by rfl) (hpl : (backTo pos (starEach es X.env)).any (·.1) = false := by rfl) (hx : Passes CX0 X E0 := by exact pass0) :
    PE X (.Call (.Name x p) (e :: es) [] pos) (tCall (spR X.K R) [] E0 t) := by
  obtain ⟨f, fd, F, hm, kp, b, _⟩ := c.ex
  exact pe_call F (hr.mono hk) hg hm kp b .nil hx ha hdb he hpl
theorem pe_callC0 (c : Callee X.prog X.w X.K X.mg X.base x k ps R) (hr : Room j X.A) (hk : k ≤ j) (hg : Gl X x) (hdb : (x == ("__debug__" : Str)) = false := by decide) (hx : Passes CX0 X E0 := by exact pass0) :
    PE X (.Call (.Name x p) [] [] pos) (tCall (spR X.K R) [] E0 tNil) := by
  obtain ⟨f, fd, F, hm, kp, b, _⟩ := c.ex
  exact pe_call0 F (hr.mono hk) hg hm kp b .nil hx hdb
/-- a global that holds a value -/
def GlobIs (mg : Str → Option Value) (x : Str) (v : V) : Prop := ∃ u, mg x = some u ∧ RelV v u
theorem pe_gl {v : V} (h : GlobIs X.mg x v) (hg : Gl X x := by rfl) (hd : (x == ("__debug__" : Str)) = false := by decide) : PE X (.Name x pos) (tC v) := by
  obtain ⟨u, hm, r⟩ := h
  exact pe_glob hg hm r hd
end
theorem ok_def {P : Program} {w : World} {K : PySem.W.Frag} {mg : Str → Option Value} {base : Heap} {x qual : Str} {st : Stmt} {N ps : List Str} {k : Nat} {R : List D → D → Prop} (F : DefAt K mg x qual st ps) (S : FnScope N ps (defScope st)) (hn : ∀ ds d, R ds d → ds.length = ps.length)
    (hb : ∀ (f : Addr) (cdv : Value) (A : Around) (outer : List Env) (s : Shared) (H : Hp) (E : XK), Room k (A.deeper (PyProof.Rows.envOfC qual (defScope st) s.heap.objs.size f cdv)) →
      ∃ t, PSs (cxOf CX0 P w K mg base N qual (defScope st) f cdv A outer s H E).nox (defBody st) t ∧ ∀ (I H' : Hp) ds d, R ds d → B ⟨K, I, H', []⟩ (slots N ds) t ⟨fun _ => d = .non, fun e _ => e = d, fun _ => False, fun _ => False⟩) :
    Callee P w K mg base x (k + 1) ps R := by
  obtain ⟨f, fd, F1, hm, b⟩ := F.ex
  obtain ⟨oc, od, kV, doc, pm, an, cdv, ct, osl, rfl, lk, _⟩ := id F1.ex
  exact ⟨f, _, ok_of F1 S hn (hb f), hm, F1.kp, b, oc, od, osl, lk⟩
theorem Callee.fn {P : Program} {w : World} {K : PySem.W.Frag} {mg : Str → Option Value} {base : Heap} {x qual : Str} {st : Stmt} {ps : List Str} {k : Nat} {R : List D → D → Prop} {f : Addr} {fd : FuncData} (C : Callee P w K mg base x k ps R) (F : Fun K x qual st f fd) (hm : mg x = some (.ref f)) : FnOk P w K mg base CX0 k f fd ps (spR K R) := by
  obtain ⟨f', fd', FF, hm', _, _, oc, od, osl, lk⟩ := C.ex
  obtain ⟨oc2, od2, kV, doc, pm, an, cdv, ct, osl2, _, lk2, _⟩ := F.ex
  rw [hm] at hm'
  cases hm'
  rw [lk] at lk2
  cases lk2
  exact FF
def spLaw (K : PySem.W.Frag) : Sp := fun vs H Q _ => ∃ (a : Addr) (ns : List Int), vs = [.ref a] ∧ SqL K H a (ns.map V.int) ∧ ns.length ≤ 63 ∧ ∀ H', Q (.bl true) H'
/-- the law -/
theorem law_fn {P : Program} {w : World} {K : PySem.W.Frag} {mg : Str → Option Value} {base : Heap} {qual : Str} {st : Stmt} {ps : List Str} {k : Nat} {R : List D → D → Prop} {f : Addr} {fd : FuncData} (C : Callee P w K mg base "law" k ps R) (F : Fun K "law" qual st f fd) (hm : mg "law" = some (.ref f))
    (hR : ∀ ns : List Int, ns.length ≤ 63 → R [.fl (ns.map D.int)] (.bl true)) : FnOk P w K mg base CX0 k f fd ps (spLaw K) :=
  (C.fn F hm).imp fun vs H Q E h => by
    obtain ⟨a, ns, rfl, hs, hl, q⟩ := h
    exact ⟨H, [.fl (ns.map D.int)], .bl true, Ex.refl H, .cons (.fl hs rps_of_ints) .nil, hR ns hl, fun I' H' v _ r => by cases r; exact q H'⟩
def uLt : R2 := fun x y H Q => rI0 (fun i j => .bl (decide (i < j))) x y H Q ∨ (∃ i j : Str, x = .str i ∧ y = .str j ∧ Q (.bl (decide (i.cps.toList < j.cps.toList))) H)
theorem op_uLt {X : Cx} : OpR X (compareOp .Lt) uLt := op_or op_lt op_lt_str
def uLe : R2 := fun x y H Q => rI0 (fun i j => .bl (decide (i ≤ j))) x y H Q ∨ (∃ i j : Str, x = .str i ∧ y = .str j ∧ Q (.bl (!decide (j.cps.toList < i.cps.toList))) H)
theorem op_uLe {X : Cx} : OpR X (compareOp .LtE) uLe := op_or op_le op_le_str
def uGt : R2 := fun x y H Q => rI0 (fun i j => .bl (decide (j < i))) x y H Q ∨ (∃ i j : Str, x = .str i ∧ y = .str j ∧ Q (.bl (decide (j.cps.toList < i.cps.toList))) H)
theorem op_uGt {X : Cx} : OpR X (compareOp .Gt) uGt := op_or op_gt op_gt_str
def uGe : R2 := fun x y H Q => rI0 (fun i j => .bl (decide (j ≤ i))) x y H Q ∨ (∃ i j : Str, x = .str i ∧ y = .str j ∧ Q (.bl (!decide (i.cps.toList < j.cps.toList))) H)
theorem op_uGe {X : Cx} : OpR X (compareOp .GtE) uGe := op_or op_ge op_ge_str
section
variable {K : PySem.W.Frag}
theorem bin_lt {i j : Int} : Bin K uLt (.int i) (.int j) (.bl (decide (i < j))) := fun I H u v e r1 r2 Q q => by
  cases r1; cases r2
  exact .inl ⟨i, j, rfl, rfl, q I H _ (Gr.refl e) (.bl _)⟩
theorem bin_le {i j : Int} : Bin K uLe (.int i) (.int j) (.bl (decide (i ≤ j))) := fun I H u v e r1 r2 Q q => by
  cases r1; cases r2
  exact .inl ⟨i, j, rfl, rfl, q I H _ (Gr.refl e) (.bl _)⟩
theorem bin_gt {i j : Int} : Bin K uGt (.int i) (.int j) (.bl (decide (j < i))) := fun I H u v e r1 r2 Q q => by
  cases r1; cases r2
  exact .inl ⟨i, j, rfl, rfl, q I H _ (Gr.refl e) (.bl _)⟩
theorem bin_ge {i j : Int} : Bin K uGe (.int i) (.int j) (.bl (decide (j ≤ i))) := fun I H u v e r1 r2 Q q => by
  cases r1; cases r2
  exact .inl ⟨i, j, rfl, rfl, q I H _ (Gr.refl e) (.bl _)⟩
theorem bin_le_s {i j : Str} : Bin K uLe (.str i) (.str j) (.bl (!decide (j.cps.toList < i.cps.toList))) := fun I H u v e r1 r2 Q q => by
  cases r1; cases r2
  exact .inr ⟨i, j, rfl, rfl, q I H _ (Gr.refl e) (.bl _)⟩
theorem bin_lt_s {i j : Str} : Bin K uLt (.str i) (.str j) (.bl (decide (i.cps.toList < j.cps.toList))) := fun I H u v e r1 r2 Q q => by
  cases r1; cases r2
  exact .inr ⟨i, j, rfl, rfl, q I H _ (Gr.refl e) (.bl _)⟩
theorem bin_isN {d : D} {b : Bool} (h : ∀ I v, Rp K I v d → decide (v = .non) = b) : Bin K (fun x y H Q => y = .non ∧ Q (.bl (decide (x = .non))) H) d .non (.bl b) := fun I H u v e r1 r2 Q q => by
  cases r2
  exact ⟨rfl, by rw [h I u r1]; exact q I H _ (Gr.refl e) (.bl _)⟩
end
end G

namespace G
open PySem PySem.Spec L2
/-! isinstance -/
def isInt : D → Bool
  | .int _ => true
  | .bl _ => true
  | _ => false
def isBool : D → Bool
  | .bl _ => true
  | _ => false
def isStr : D → Bool
  | .str _ => true
  | _ => false
def isLst : D → Bool
  | .lst _ => true
  | .fl _ => true
  | _ => false
def isTup : D → Bool
  | .tup _ => true
  | _ => false
def isDic : D → Bool
  | .dic _ _ => true
  | _ => false
/-- data of a built-in class -/
def plain : D → Bool
  | .obj _ _ _ => false
  | .ty _ => false
  | .ref _ => false
  | _ => true
theorem ty_plain {d : D} (h : plain d = true) : tyD d ≠ "?" := by cases d <;> first | (cases h; done) | (simp [tyD])
section
variable {K : PySem.W.Frag} {Γ : Sl}
theorem ca_is_int {d : D} (h : plain d = true) : Ca K (rIsi K) [d, .ty "int"] (.bl (isInt d)) := by
  refine ca_isi (ty_plain h) ?_
  cases d <;> first | (cases h; done) | (simp only [tyD, isInt, isBool, isStr, isLst, isTup, isDic]; decide +kernel)
theorem ca_is_bool {d : D} (h : plain d = true) : Ca K (rIsi K) [d, .ty "bool"] (.bl (isBool d)) := by
  refine ca_isi (ty_plain h) ?_
  cases d <;> first | (cases h; done) | (simp only [tyD, isInt, isBool, isStr, isLst, isTup, isDic]; decide +kernel)
theorem ca_is_str {d : D} (h : plain d = true) : Ca K (rIsi K) [d, .ty "str"] (.bl (isStr d)) := by
  refine ca_isi (ty_plain h) ?_
  cases d <;> first | (cases h; done) | (simp only [tyD, isInt, isBool, isStr, isLst, isTup, isDic]; decide +kernel)
theorem ca_is_lst {d : D} (h : plain d = true) : Ca K (rIsi K) [d, .ty "list"] (.bl (isLst d)) := by
  refine ca_isi (ty_plain h) ?_
  cases d <;> first | (cases h; done) | (simp only [tyD, isInt, isBool, isStr, isLst, isTup, isDic]; decide +kernel)
theorem ca_is_tup {d : D} (h : plain d = true) : Ca K (rIsi K) [d, .ty "tuple"] (.bl (isTup d)) := by
  refine ca_isi (ty_plain h) ?_
  cases d <;> first | (cases h; done) | (simp only [tyD, isInt, isBool, isStr, isLst, isTup, isDic]; decide +kernel)
theorem ca_is_dic {d : D} (h : plain d = true) : Ca K (rIsi K) [d, .ty "dict"] (.bl (isDic d)) := by
  refine ca_isi (ty_plain h) ?_
  cases d <;> first | (cases h; done) | (simp only [tyD, isInt, isBool, isStr, isLst, isTup, isDic]; decide +kernel)
/-! comprehensions without a test, what they give by a function -/
theorem e_lcY {α β : Type} {xs : List α} {em : α → D} {f : α → β} {emb : β → D} {wi : TI} {g : TG} {te : TE} {vs : List Nat} (hs : Src K Γ wi (xs.map em)) (hl : xs.length ≤ 10000000)
    (ht : ∀ (i : Nat) (x : α), xs[i]? = some x → ∃ ws Γ1, Tgt K g (em x) ws (wipeG Γ vs) Γ1 ∧ (∀ j ∈ ws, j ∈ vs) ∧ E K Γ1 te (emb (f x))) : E K Γ (tLc wi g tYes te vs) (.lst ((xs.map f).map emb)) := by
  have := e_lc (p := fun _ => true) (f := fun x => emb (f x)) (tt := tYes) hs hl fun i x hx => by
    obtain ⟨ws, Γ1, a, b, c⟩ := ht i x hx
    exact ⟨ws, Γ1, a, b, t_yes, fun _ => c⟩
  have e : xs.filter (fun _ => true) = xs := List.filter_eq_self.mpr fun _ _ => rfl
  rw [e] at this
  rw [List.map_map]
  exact this
theorem e_lcF {α β : Type} {xs : List α} {em : α → D} {p : α → Bool} {f : α → β} {emb : β → D} {wi : TI} {g : TG} {tt : TT} {te : TE} {vs : List Nat} (hs : Src K Γ wi (xs.map em)) (hl : xs.length ≤ 10000000)
    (ht : ∀ (i : Nat) (x : α), xs[i]? = some x → ∃ ws Γ1, Tgt K g (em x) ws (wipeG Γ vs) Γ1 ∧ (∀ j ∈ ws, j ∈ vs) ∧ T K Γ1 tt (p x) ∧ (p x = true → E K Γ1 te (emb (f x)))) : E K Γ (tLc wi g tt te vs) (.lst (((xs.filter p).map f).map emb)) := by
  have := e_lc (p := p) (f := fun x => emb (f x)) hs hl ht
  rw [List.map_map]
  exact this
theorem src_u_l {te : TE} {d : D} {ds : List D} (h : E K Γ te d) (hl : LD d ds) : Src K Γ (fun σ H R => iList K te σ H R ∨ (fun σ H R => iTup K te σ H R ∨ iStr te σ H R) σ H R) ds := src_or1 (src_list h hl)
theorem src_u_t {te : TE} {ds : List D} (h : E K Γ te (.tup ds)) : Src K Γ (fun σ H R => iList K te σ H R ∨ (fun σ H R => iTup K te σ H R ∨ iStr te σ H R) σ H R) ds := src_or2 (src_or1 (src_tup h))
theorem src_u_s {te : TE} {z : Str} (h : E K Γ te (.str z)) : Src K Γ (fun σ H R => iList K te σ H R ∨ (fun σ H R => iTup K te σ H R ∨ iStr te σ H R) σ H R) (z.cps.toList.map fun c => .str ⟨#[c]⟩) := src_or2 (src_or2 (src_str h))
end

/-! the rules with K said ahead -/
section
variable {X : Cx} (K : PySem.W.Frag) (hK : X.K = K := by rfl)
include hK
theorem k_add : OpR X (binaryOp .Add) (uAdd K) := by subst hK; exact op_uAdd
theorem k_eq (hu : X.A.units + 64 < cLine) : OpR X (compareOp .Eq) (uEq K) := by subst hK; exact op_uEq hu
theorem k_ne (hu : X.A.units + 64 < cLine) : OpR X (compareOp .NotEq) (uNe K) := by subst hK; exact op_uNe hu
theorem k_in : OpR X (compareOp .In) (uIn K) := by subst hK; exact op_uIn
theorem k_ni : OpR X (compareOp .NotIn) (uNi K) := by subst hK; exact op_uNi
theorem k_sl : SlR X (uSl K) := by subst hK; exact sl_u
theorem k_ix : IxR X (rIx K) := by subst hK; exact ix_seq
theorem k_len : CallR X (.builtin "len") (uLen K) := by subst hK; exact cr_uLen
theorem k_isi : CallR X (.builtin "isinstance") (rIsi K) := by subst hK; exact call_isi
theorem k_all (hc : X.calm = true) : CallR X (.builtin "all") (rAll K) := by subst hK; exact cr_all hc
theorem k_any (hc : X.calm = true) : CallR X (.builtin "any") (rAny K) := by subst hK; exact cr_any hc
theorem k_sum (hc : X.calm = true) : CallR X (.builtin "sum") (rSum K) := by subst hK; exact cr_sum hc
theorem k_it {tg e : Expr} {te : TE} (he : PE X e te) : PI X tg e (fun σ H R => iList K te σ H R ∨ (fun σ H R => iTup K te σ H R ∨ iStr te σ H R) σ H R) := by subst hK; exact pi_u he
theorem k_enum {tg e : Expr} {ta : TA} {p pos tpos : Pos} {elts : List Expr} {kk : Nat} (hg : Gl X "enumerate") (hm : X.mg "enumerate" = none) (ha : PA X [e] ta) (hs : starEach [e] X.env = [(false, eval e X.env)] := by rfl) :
    PI X (.Tuple elts kk tpos) (.Call (.Name "enumerate" p) [e] [] pos) (iEnum K ta) := by subst hK; exact pi_enum hg hm ha hs
theorem k_zip {e e2 : Expr} {ta : TA} {p pos tpos : Pos} {elts : List Expr} {kk : Nat} (hg : Gl X "zip") (hm : X.mg "zip" = none) (ha : PA X [e, e2] ta)
    (hs : starEach [e, e2] X.env = (false, eval e X.env) :: starEach [e2] X.env := by rfl) (hpl : (backTo pos (starEach [e2] X.env)).any (·.1) = false := by rfl) :
    PI X (.Tuple elts kk tpos) (.Call (.Name "zip" p) [e, e2] [] pos) (iZip K ta) := by subst hK; exact pi_zip hg hm ha hs hpl
theorem k_reversed {tg e : Expr} {ta : TA} {p pos : Pos} (hg : Gl X "reversed") (hm : X.mg "reversed" = none) (ha : PA X [e] ta) (hs : starEach [e] X.env = [(false, eval e X.env)] := by rfl) : PI X tg (.Call (.Name "reversed" p) [e] [] pos) (iRev K ta) := by subst hK; exact pi_reversed hg hm ha hs
theorem k_tup {es : List Expr} {k : Nat} {t : TGs} {n : Nat} {pos : Pos} (hc : X.calm = true) (h : PGs X es t)
    (hn : (assignEach es X.env).length = n := by rfl) (hst : (assignEach es X.env).findIdx? (·.1) = none := by rfl) : PG X (.Tuple es k pos) (gTup K n t) := by subst hK; exact pg_tup hc h hn hst
theorem k_join {o e : Expr} {to te : TE} {apos pos : Pos} (ho : PE X o to) (he : PE X e te) (hs : starEach [e] X.env = [(false, eval e X.env)] := by rfl) (hbase : attributeBase o "join" X.env (eval o X.env) = eval o X.env := by rfl) (hline : (apos.endLine == pos.line) = true := by rfl) :
    PE X (.Call (.Attribute o "join" apos) [e] [] pos) (tM1 (rJoin K) to te) := by subst hK; exact pe_join ho he hs hbase hline
theorem k_bm {T : String} {name : Str} {id : String} {r : V → List V → Hp → VK → Prop} {o e : Expr} {es : List Expr} {to : TE} {t : TA} {apos cpos : Pos} (pa : PlainAttrs T) (slot : Slot T name id) (hty : typeOf (.builtin id) = pure (.type "method_descriptor")) (hm : MtR X id r) (ho : PE X o to) (ha : PA X (e :: es) t)
    (hbase : attributeBase o name X.env (eval o X.env) = eval o X.env := by rfl)
    (hfew : ((backTo cpos (starEach (e :: es) X.env)).all (fun x => !x.1) && (backToKw cpos (keywordEach [] X.env)).all (fun x => x.1.isSome)
      && decide ((e :: es).length + ([] : List Keyword).length + (if ([] : List Keyword).isEmpty then 0 else 1) < 30)) = true := by rfl)
    (hline : (apos.endLine == cpos.line) = true := by rfl) (hst : starEach (e :: es) X.env = (false, eval e X.env) :: starEach es X.env := by rfl) (hpl : (backTo cpos (starEach es X.env)).any (·.1) = false := by rfl) :
    PE X (.Call (.Attribute o name apos) (e :: es) [] cpos) (tBM K T r to t) := by subst hK; exact pe_bm pa slot hty hm ho ha hbase hfew hline hst hpl
theorem k_bm0 {T : String} {name : Str} {id : String} {r : V → List V → Hp → VK → Prop} {o : Expr} {to : TE} {apos cpos : Pos} (pa : PlainAttrs T) (slot : Slot T name id) (hty : typeOf (.builtin id) = pure (.type "method_descriptor")) (hm : MtR X id r) (ho : PE X o to)
    (hbase : attributeBase o name X.env (eval o X.env) = eval o X.env := by rfl) (hline : (apos.endLine == cpos.line) = true := by rfl) : PE X (.Call (.Attribute o name apos) [] [] cpos) (tBM0 K T r to) := by subst hK; exact pe_bm0 pa slot hty hm ho hbase hline
end
section
variable {X : Cx} {P : Program} {w : World} (K : PySem.W.Frag) {mg : Str → Option Value} {base : Heap} {x : Str} {j k : Nat} {ps : List Str} {R : List D → D → Prop} {p pos : Pos} {e : Expr} {es : List Expr} {t : TA}
theorem k_call (c : Callee P w K mg base x k ps R) (hr : Room j X.A) (hk : k ≤ j) (hg : Gl X x) (ha : PA X (e :: es) t) (hdb : (x == ("__debug__" : Str)) = false := by decide)
    (he : starEach (e :: es) X.env = (false, eval e X.env) :: starEach es X.env := by rfl) (hpl : (backTo pos (starEach es X.env)).any (·.1) = false := by rfl) (hx : Passes CX0 X E0 := by exact pass0)
    (hX : X.prog = P ∧ X.w = w ∧ X.K = K ∧ X.mg = mg ∧ X.base = base := by exact ⟨rfl, rfl, rfl, rfl, rfl⟩) :
    PE X (.Call (.Name x p) (e :: es) [] pos) (tCall (spR K R) [] E0 t) := by
  obtain ⟨rfl, rfl, rfl, rfl, rfl⟩ := hX
  exact pe_callC c hr hk hg ha hdb he hpl hx
theorem k_call0 (c : Callee P w K mg base x k ps R) (hr : Room j X.A) (hk : k ≤ j) (hg : Gl X x) (hdb : (x == ("__debug__" : Str)) = false := by decide) (hx : Passes CX0 X E0 := by exact pass0)
    (hX : X.prog = P ∧ X.w = w ∧ X.K = K ∧ X.mg = mg ∧ X.base = base := by exact ⟨rfl, rfl, rfl, rfl, rfl⟩) :
    PE X (.Call (.Name x p) [] [] pos) (tCall (spR K R) [] E0 tNil) := by
  obtain ⟨rfl, rfl, rfl, rfl, rfl⟩ := hX
  exact pe_callC0 c hr hk hg hdb hx
end
end G

namespace G
open PySem PySem.Spec L2
section
variable {K : PySem.W.Frag} {Γ : Sl} {c : Cz} {κ : Ks}
theorem bin_mod {i j : Int} (h : 0 < j) : Bin K (rI (fun _ j => j ≠ 0) fun i j => .int (i.fmod j)) (.int i) (.int j) (.int (i % j)) := by
  have e : i.fmod j = i % j := Int.fmod_eq_emod_of_nonneg i (Int.le_of_lt h)
  rw [← e]
  exact bin_I (g := fun i j => i.fmod j) (by omega)
theorem bin_div {i j : Int} (h : 0 < j) (hj : j < 2 ^ 64) : Bin K (rI CDivW fun i j => .int (i / j)) (.int i) (.int j) (.int (i / j)) := by
  refine bin_I (g := fun i j => i / j) ⟨h, ?_⟩
  have h2 : j.natAbs < 2 ^ 64 := by omega
  have h3 : j.natAbs ≠ 0 := by omega
  exact Nat.lt_trans ((Nat.log2_lt h3).mpr h2) (by decide)
theorem log2_64 {n : Nat} (h : n < 2 ^ 64) : n.log2 < 64 := by
  by_cases z : n = 0
  · subst z; decide
  · exact (Nat.log2_lt z).mpr h
theorem mul_ok {i j : Int} (hi : -(2 ^ 64) < i ∧ i < 2 ^ 64) (hj : -(2 ^ 64) < j ∧ j < 2 ^ 64) : i.natAbs.log2 + j.natAbs.log2 < 1000000 := by
  have a := log2_64 (n := i.natAbs) (by omega)
  have b := log2_64 (n := j.natAbs) (by omega)
  omega
theorem bin_mul64 {i j : Int} (hi : -(2 ^ 64) < i ∧ i < 2 ^ 64) (hj : -(2 ^ 64) < j ∧ j < 2 ^ 64) : Bin K uMul (.int i) (.int j) (.int (i * j)) := bin_mul (mul_ok hi hj)
theorem bin_pow {i j r : Int} (h : 0 ≤ j ∧ j ≤ 1000000 ∧ i.natAbs < 2 ^ 64) (e : i ^ j.toNat = r) : Bin K (rI CPow fun i j => .int (i ^ j.toNat)) (.int i) (.int j) (.int r) := by
  subst e
  exact bin_I (g := fun i j => i ^ j.toNat) h
theorem atI_nat' {α : Type} {xs : List α} {i : Int} {n : Nat} {x : α} (hi : i = n) (h : xs[n]? = some x) : atI xs i = some x := by
  rw [hi]; exact atI_nat h
theorem atI_get {α : Type} {xs : List α} {i : Int} (h0 : 0 ≤ i) (h1 : i < xs.length) : atI xs i = some (xs[i.toNat]'(by omega)) :=
  atI_nat' (n := i.toNat) (by omega) (List.getElem?_eq_getElem (by omega))
theorem atI_getD {α : Type} {xs : List α} {i : Int} (d : α) (h0 : 0 ≤ i) (h1 : i < xs.length) : atI xs i = some (xs.getD i.toNat d) := by
  refine atI_nat' (n := i.toNat) (by omega) ?_
  rw [List.getD_eq_getElem?_getD, List.getElem?_eq_getElem (by omega)]
  rfl
theorem sIx0 (n : Nat) : HT.sIx n 0 none = 0 := rfl
theorem sIxN (n d : Nat) : HT.sIx n d none = d := rfl
theorem sIxI {n d : Nat} {i : Int} (h : 0 ≤ i) : HT.sIx n d (some i) = min i.toNat n := by
  unfold HT.sIx
  simp only
  rw [if_neg (by omega)]
/-- the slots as they are written -/
theorem b_show {ts : TS} {Γ' : Sl} (e : Γ = Γ') (h : B c Γ' ts κ) : B c Γ ts κ := e ▸ h
/-- a def whose end is told -/
theorem b_ret_is {te : TE} {d e : D} (h : E c.K Γ te d) (h2 : d = e) (k : κ.rt e Γ) : B c Γ (tRet te) κ := b_ret (h2 ▸ h) k
end
/-! texts by their codes -/
theorem str_length (s : Str) : s.length = s.cps.toList.length := rfl
theorem app_codes (x y : Str) : (x ++ y).cps.toList = x.cps.toList ++ y.cps.toList := by
  show (x.cps ++ y.cps).toList = _
  exact Array.toList_append
theorem cutS_codes (z : Str) (lo hi : Option Int) : (cutS z lo hi).cps.toList = ((z.cps.toList.drop (HT.sIx z.length 0 lo)).take (HT.sIx z.length z.length hi - HT.sIx z.length 0 lo)) := rfl
/-! a loop that folds -/
section
variable {c : Cz} {Γ : Sl} {κ : Ks}
theorem b_fold {α : Type} {xs : List α} {em : α → D} {wi : TI} {g : TG} {tb : TS} (hs : Src c.K Γ wi (xs.map em)) {S : Type} (step : S → α → S) (P : Nat → S → Prop) (Γf : S → Sl) (s0 : S) (h0 : P 0 s0) (l0 : Le (Γf s0) Γ) (hP : ∀ (i : Nat) (s : S) (x : α), xs[i]? = some x → P i s → P (i + 1) (step s x))
    (ht : ∀ (i : Nat) (s : S) (x : α), xs[i]? = some x → P i s → ∃ ws Γ1, Tgt c.K g (em x) ws (Γf s) Γ1 ∧ B c Γ1 tb ⟨fun Γ' => Le (Γf (step s x)) Γ', κ.rt, fun _ => False, fun Γ' => Le (Γf (step s x)) Γ'⟩)
    (hd : P xs.length (xs.foldl step s0) → κ.nx (Γf (xs.foldl step s0))) : B c Γ (tFor wi g tb) κ := by
  refine b_for hs (fun i s => s = (xs.take i).foldl step s0 ∧ P i s) Γf s0 ⟨rfl, h0⟩ l0 ?_ ?_
  · rintro i s d hd ⟨e, p⟩
    rw [List.getElem?_map] at hd
    obtain ⟨x, hx⟩ : ∃ x, xs[i]? = some x := by
      cases hx : xs[i]? with
      | none => rw [hx] at hd; cases hd
      | some x => exact ⟨x, rfl⟩
    rw [hx] at hd
    cases hd
    obtain ⟨ws, Γ1, tg, hb⟩ := ht i s x hx p
    have e2 : step s x = (xs.take (i + 1)).foldl step s0 := by
      rw [List.take_add_one, hx, List.foldl_append, ← e]; rfl
    exact ⟨ws, Γ1, tg, b_ks hb (fun Γ' h => ⟨_, ⟨e2, hP i s x hx p⟩, h⟩) (fun _ _ h => h) (fun _ h => h.elim) (fun Γ' h => ⟨_, ⟨e2, hP i s x hx p⟩, h⟩)⟩
  · rintro s ⟨e, p⟩
    rw [List.length_map] at e p
    rw [List.take_length] at e
    subst e
    exact hd p
/-- a loop that only looks: it leaves (returns) or goes on -/
theorem b_look {α : Type} {xs : List α} {em : α → D} {wi : TI} {g : TG} {tb : TS} (hs : Src c.K Γ wi (xs.map em)) (P : Nat → Prop) (Γf : Sl) (h0 : P 0) (l0 : Le Γf Γ)
    (ht : ∀ (i : Nat) (x : α), xs[i]? = some x → P i → ∃ ws Γ1, Tgt c.K g (em x) ws Γf Γ1 ∧ B c Γ1 tb ⟨fun Γ' => P (i + 1) ∧ Le Γf Γ', κ.rt, fun _ => False, fun Γ' => P (i + 1) ∧ Le Γf Γ'⟩)
    (hd : P xs.length → κ.nx Γf) : B c Γ (tFor wi g tb) κ := by
  refine b_for hs (fun i (_ : Unit) => P i) (fun _ => Γf) () h0 l0 ?_ ?_
  · rintro i s d hd p
    rw [List.getElem?_map] at hd
    obtain ⟨x, hx⟩ : ∃ x, xs[i]? = some x := by
      cases hx : xs[i]? with
      | none => rw [hx] at hd; cases hd
      | some x => exact ⟨x, rfl⟩
    rw [hx] at hd
    cases hd
    obtain ⟨ws, Γ1, tg, hb⟩ := ht i x hx p
    exact ⟨ws, Γ1, tg, b_ks hb (fun Γ' h => ⟨(), h.1, h.2⟩) (fun _ _ h => h) (fun _ h => h.elim) (fun Γ' h => ⟨(), h.1, h.2⟩)⟩
  · rintro s p
    rw [List.length_map] at p
    exact hd p
end
/-! dicts written out -/
section
variable {K : PySem.W.Frag} {Γ : Sl}
theorem e_dnew : E K Γ tDNewK (.dic [] []) := fun I σ H as e l Q q => fun p hp => q _ _ _ (Gr.new e hp) (.dic (ks := []) (xs := []) upd_same rfl .nil)
def EP (K : PySem.W.Frag) (Γ : Sl) (trs : List (TE × TE)) (ks : List Key) (ds : List D) : Prop := ∀ (I : Hp) (σ : St) (H : Hp) (as : Nat → Addr), Ex I H → Lo K I σ H as Γ → ∀ Q : List (V × V) → Hp → Prop,
  (∀ I' H' (vs : List V), Gr [] I H I' H' → ks.length = vs.length → Rps K I' vs ds → Q ((ks.zip vs).map fun kv => (kV kv.1, kv.2)) H') → tPairs trs σ H Q
theorem ep_nil : EP K Γ [] [] [] := fun I σ H as e l Q q => q I H [] (Gr.refl e) rfl .nil
theorem ep_str {tk tv : TE} {trs : List (TE × TE)} {s : Str} {d : D} {ks : List Key} {ds : List D} (h1 : E K Γ tk (.str s)) (h2 : E K Γ tv d) (h3 : EP K Γ trs ks ds) : EP K Γ ((tk, tv) :: trs) (.inr s :: ks) (d :: ds) := fun I σ H as e l Q q =>
  h1 I σ H as e l _ fun I1 H1 v g1 r1 => h2 I1 σ H1 as g1.ih (l.mono g1) _ fun I2 H2 w g2 r2 => h3 I2 σ H2 as g2.ih (l.mono (g1.trans g2)) _ fun I3 H3 vs g3 hl r3 => by
    cases r1
    exact q I3 H3 (w :: vs) ((g1.trans g2).trans g3) (by simp [hl]) (.cons (r2.mono g3.i) r3)
theorem ep_int {tk tv : TE} {trs : List (TE × TE)} {s : Int} {d : D} {ks : List Key} {ds : List D} (h1 : E K Γ tk (.int s)) (h2 : E K Γ tv d) (h3 : EP K Γ trs ks ds) : EP K Γ ((tk, tv) :: trs) (.inl s :: ks) (d :: ds) := fun I σ H as e l Q q =>
  h1 I σ H as e l _ fun I1 H1 v g1 r1 => h2 I1 σ H1 as g1.ih (l.mono g1) _ fun I2 H2 w g2 r2 => h3 I2 σ H2 as g2.ih (l.mono (g1.trans g2)) _ fun I3 H3 vs g3 hl r3 => by
    cases r1
    exact q I3 H3 (w :: vs) ((g1.trans g2).trans g3) (by simp [hl]) (.cons (r2.mono g3.i) r3)
theorem putK_app {k : Key} {v : V} : ∀ {kvs : List (Key × V)}, k ∉ kvs.map (·.1) → putK kvs k v = kvs ++ [(k, v)] := fun {kvs} h => by
  refine putK_new _ ?_
  cases e : valV kvs k with
  | none => rfl
  | some u => exact absurd (valV_in e) h
theorem merge_nodup : ∀ (kvs acc : List (Key × V)), ((acc ++ kvs).map (·.1)).Nodup → mergeK acc kvs = acc ++ kvs
  | [], acc, _ => by simp [mergeK]
  | (k, v) :: r, acc, h => by
    have h1 : k ∉ acc.map (·.1) := fun z => by
      rw [List.map_append, List.nodup_append] at h
      exact h.2.2 k z k (by simp) rfl
    show mergeK (putK acc k v) r = _
    rw [putK_app h1, merge_nodup r _ (by simpa using h)]
    simp
theorem e_disp {trs : List (TE × TE)} {ks : List Key} {ds : List D} (h : EP K Γ trs ks ds) (hn : ks.Nodup) (hl : ks.length ≤ 15) : E K Γ (tDisp trs) (.dic ks ds) := fun I σ H as e l Q q => fun p hp => by
  have l1 : Lo K I σ (upd H p (.dK [])) as Γ := l.mono (Gr.junk e hp)
  refine h I σ (upd H p (.dK [])) as (e.trans (Ex.new hp)) l1 _ fun I1 H1 vs g1 hlen r1 => ?_
  have hp1 : H1 p = some (.dK []) := g1.ex _ _ upd_same
  have g : Gr [] I H I1 H1 := (Gr.junk e hp).trans g1
  have n1 : I1 p = none := g1.none_i (e.free hp) (by rw [upd_same]; exact nofun)
  refine ⟨hp1, ks.zip vs, rfl, by rw [List.length_zip]; omega, ?_⟩
  have hk : (ks.zip vs).map (·.1) = ks := by rw [List.map_fst_zip]; omega
  have em : mergeK [] (ks.zip vs) = ks.zip vs := by
    have := merge_nodup (ks.zip vs) [] (by rw [List.nil_append, hk]; exact hn)
    simpa using this
  rw [em]
  refine q _ _ _ ((g.mut n1 (.inl hp)).frz n1 hp upd_same) (.dic upd_same hlen (r1.mono (Ex.new n1)))
end
end G

namespace G
open PySem PySem.Spec L2
def rLo (K : PySem.W.Frag) : List V → Hp → VK → Prop := fun xs H Q => ∃ p ys, xs = [.ref p] ∧ (SqL K H p ys ∨ SqT K H p ys) ∧ ∀ l, H l = none → Q (.ref l) (upd H l (.lst ys))
def rTo (K : PySem.W.Frag) : List V → Hp → VK → Prop := fun xs H Q => ∃ p ys, xs = [.ref p] ∧ ((SqL K H p ys ∧ ∀ l, H l = none → Q (.ref l) (upd H l (.tup ys))) ∨ (SqT K H p ys ∧ Q (.ref p) H))
section
variable {X : Cx} (K : PySem.W.Frag) (hK : X.K = K := by rfl)
include hK
theorem k_list : CallR X (.type "list") (rLo K) := by subst hK; exact call_list_of
theorem k_tuple : CallR X (.type "tuple") (rTo K) := by subst hK; exact call_tuple_of
end
section
variable {K : PySem.W.Frag} {Γ : Sl}
theorem e_listC {te : TE} {ds : List D} (h : C K Γ te ds) : E K Γ (tCB (rLo K) (tCons te tNil)) (.lst ds) := fun I σ H as e l Q q =>
  h I σ H as e l _ fun I1 H1 a vs g1 hs r1 => ⟨a, vs, rfl, .inl hs, fun p hp => q _ _ _ (g1.trans (Gr.new g1.ih hp)) (.lst upd_same (r1.mono (Ex.new (g1.ih.free hp))))⟩
theorem ca_list {d : D} {ds : List D} (hl : LD d ds) : Ca K (rLo K) [d] (.lst ds) := fun I H us e r Q q => by
  cases r with
  | cons a b =>
    cases b
    obtain ⟨p, vs, rfl, hs, hr⟩ := a.l hl
    exact ⟨p, vs, rfl, .inl (ex_l e hs), fun l hp => q _ _ _ (Gr.new e hp) (.lst upd_same (hr.mono (Ex.new (e.free hp))))⟩
theorem ca_list_t {ds : List D} : Ca K (rLo K) [.tup ds] (.lst ds) := fun I H us e r Q q => by
  cases r with
  | cons a b =>
    cases b
    cases a with
    | tup hs hr => exact ⟨_, _, rfl, .inr (ex_t e hs), fun l hp => q _ _ _ (Gr.new e hp) (.lst upd_same (hr.mono (Ex.new (e.free hp))))⟩
theorem ca_tuple {d : D} {ds : List D} (hl : LD d ds) : Ca K (rTo K) [d] (.tup ds) := fun I H us e r Q q => by
  cases r with
  | cons a b =>
    cases b
    obtain ⟨p, vs, rfl, hs, hr⟩ := a.l hl
    exact ⟨p, vs, rfl, .inl ⟨ex_l e hs, fun l hp => q _ _ _ (Gr.new e hp) (.tup (.inl (.inl upd_same)) (hr.mono (Ex.new (e.free hp))))⟩⟩
theorem ca_tuple_t {ds : List D} : Ca K (rTo K) [.tup ds] (.tup ds) := fun I H us e r Q q => by
  cases r with
  | cons a b =>
    cases b
    cases a with
    | tup hs hr => exact ⟨_, _, rfl, .inr ⟨ex_t e hs, q I H _ (Gr.refl e) (.tup hs hr)⟩⟩
/-! data for == -/
def okS (x : Str) : Bool := PyData.strOk x
mutual
def okD : D → Bool
  | .non => true
  | .bl _ => true
  | .int _ => true
  | .str s => okS s
  | .lst ds => okDs ds
  | .fl ds => okDs ds
  | .tup ds => okDs ds
  | _ => false
def okDs : List D → Bool
  | [] => true
  | d :: ds => okD d && okDs ds
end
mutual
def depD : D → Nat
  | .lst ds => depDs ds + 1
  | .fl ds => depDs ds + 1
  | .tup ds => depDs ds + 1
  | _ => 0
def depDs : List D → Nat
  | [] => 0
  | d :: ds => max (depD d) (depDs ds)
end
mutual
theorem okD_isP : ∀ d : D, okD d = true → isP d = true
  | .non, _ => by simp [isP]
  | .bl _, _ => by simp [isP]
  | .int _, _ => by simp [isP]
  | .str _, _ => by simp [isP]
  | .lst ds, h => by rw [isP]; exact okDs_isPs ds (by simpa [okD] using h)
  | .fl ds, h => by rw [isP]; exact okDs_isPs ds (by simpa [okD] using h)
  | .tup ds, h => by rw [isP]; exact okDs_isPs ds (by simpa [okD] using h)
  | .dic _ _, h => by simp [okD] at h
  | .obj _ _ _, h => by simp [okD] at h
  | .ty _, h => by simp [okD] at h
  | .ref _, h => by simp [okD] at h
theorem okDs_isPs : ∀ ds : List D, okDs ds = true → isPs ds = true
  | [], _ => by simp [isPs]
  | d :: ds, h => by
    rw [okDs, Bool.and_eq_true] at h
    rw [isPs, Bool.and_eq_true]
    exact ⟨okD_isP d h.1, okDs_isPs ds h.2⟩
end
mutual
theorem okD_lay : ∀ d : D, okD d = true → (toP d).canLay0 = true ∧ (toP d).depth = depD d
  | .non, _ => by simp [toP, PyData.canLay0, PyData.depth, depD]
  | .bl _, _ => by simp [toP, PyData.canLay0, PyData.depth, depD]
  | .int _, _ => by simp [toP, PyData.canLay0, PyData.depth, depD]
  | .str s, h => by simp [toP, PyData.canLay0, PyData.depth, depD]; simpa [okD, okS] using h
  | .lst ds, h => by have := okDs_lay ds (by simpa [okD] using h); simp [toP, PyData.canLay0, PyData.depth, depD, this]
  | .fl ds, h => by have := okDs_lay ds (by simpa [okD] using h); simp [toP, PyData.canLay0, PyData.depth, depD, this]
  | .tup ds, h => by have := okDs_lay ds (by simpa [okD] using h); simp [toP, PyData.canLay0, PyData.depth, depD, this]
  | .dic _ _, h => by simp [okD] at h
  | .obj _ _ _, h => by simp [okD] at h
  | .ty _, h => by simp [okD] at h
  | .ref _, h => by simp [okD] at h
theorem okDs_lay : ∀ ds : List D, okDs ds = true → PyData.canLayAll0 (toPs ds) = true ∧ PyData.depthAll (toPs ds) = depDs ds
  | [], _ => by simp [toPs, PyData.canLayAll0, PyData.depthAll, depDs]
  | d :: ds, h => by
    rw [okDs, Bool.and_eq_true] at h
    have h1 := okD_lay d h.1
    have h2 := okDs_lay ds h.2
    simp [toPs, PyData.canLayAll0, PyData.depthAll, depDs, h1, h2]
end
theorem shaped_of {d : D} (h : okD d = true) (hd : depD d ≤ 64) : SeqAt.shaped (toP d) = true := by
  have := okD_lay d h
  unfold SeqAt.shaped
  rw [this.1, this.2]
  simpa using hd
/-- Python's == -/
def eqD (x y : D) : Bool := PyData.eqv (toP x) (toP y)
def eqDs (x y : List D) : Bool := PyData.eqvAll (toPs x) (toPs y)
theorem bin_eqG {x y : D} (hx : okD x = true) (hy : okD y = true) (dx : depD x ≤ 64) (dy : depD y ≤ 64) : Bin K (uEq K) x y (.bl (eqD x y)) := bin_eqD (okD_isP x hx) (okD_isP y hy) (shaped_of hx dx) (shaped_of hy dy)
theorem bin_neG {x y : D} (hx : okD x = true) (hy : okD y = true) (dx : depD x ≤ 64) (dy : depD y ≤ 64) : Bin K (uNe K) x y (.bl (!eqD x y)) := bin_neD (okD_isP x hx) (okD_isP y hy) (shaped_of hx dx) (shaped_of hy dy)
theorem eqDs_nil : eqDs [] [] = true := by simp [eqDs, toPs, PyData.eqvAll]
theorem eqDs_cons (x y : D) (xs ys : List D) : eqDs (x :: xs) (y :: ys) = (eqD x y && eqDs xs ys) := by simp [eqDs, eqD, toPs, PyData.eqvAll]
theorem eqDs_nc (y : D) (ys : List D) : eqDs [] (y :: ys) = false := by simp [eqDs, toPs, PyData.eqvAll]
theorem eqDs_cn (y : D) (ys : List D) : eqDs (y :: ys) [] = false := by simp [eqDs, toPs, PyData.eqvAll]
theorem eqD_int (i j : Int) : eqD (.int i) (.int j) = decide (i = j) := by simp [eqD, toP, PyData.eqv]; rfl
theorem eqD_str (i j : Str) : eqD (.str i) (.str j) = decide (i = j) := by
  simp only [eqD, toP, PyData.eqv]
  by_cases h : i = j
  · subst h; simp
  · rw [decide_eq_false h]; exact beq_eq_false_iff_ne.mpr h
theorem eqD_lst (x y : List D) : eqD (.lst x) (.lst y) = eqDs x y := by simp [eqD, toP, PyData.eqv, eqDs]
theorem eqD_tup (x y : List D) : eqD (.tup x) (.tup y) = eqDs x y := by simp [eqD, toP, PyData.eqv, eqDs]
theorem eqDs_map {α : Type} [DecidableEq α] (f : α → D) (h : ∀ a b, eqD (f a) (f b) = decide (a = b)) : ∀ xs ys : List α, eqDs (xs.map f) (ys.map f) = decide (xs = ys)
  | [], [] => by simp [eqDs_nil]
  | [], _ :: _ => by simp [eqDs_nc]
  | _ :: _, [] => by simp [eqDs_cn]
  | x :: xs, y :: ys => by
    rw [List.map_cons, List.map_cons, eqDs_cons, h, eqDs_map f h xs ys]
    by_cases a : x = y <;> by_cases b : xs = ys <;> simp [a, b]
theorem eqDs_strs (xs ys : List Str) : eqDs (xs.map D.str) (ys.map D.str) = decide (xs = ys) := eqDs_map D.str eqD_str xs ys
theorem eqDs_ints (xs ys : List Int) : eqDs (xs.map D.int) (ys.map D.int) = decide (xs = ys) := eqDs_map D.int eqD_int xs ys
theorem okDs_strs {xs : List Str} (h : ∀ x ∈ xs, okS x = true) : okDs (xs.map D.str) = true := by
  induction xs with
  | nil => simp [okDs]
  | cons x xs ih => simp [okDs, okD, h x (by simp)]; exact ih fun y hy => h y (List.mem_cons_of_mem _ hy)
theorem depDs_strs (xs : List Str) : depDs (xs.map D.str) = 0 := by
  induction xs with
  | nil => simp [depDs]
  | cons x xs ih => simp [depDs, depD, ih]
theorem okS_of {x : Str} (h : ∀ c ∈ x.cps.toList, c < 1114112) : okS x = true := by
  unfold okS PyData.strOk
  rw [Array.all_eq_true_iff_forall_mem]
  intro c hc
  simpa using h c (by simpa using hc)
end
end G

namespace G
open PySem PySem.Spec L2

def topS (i : Nat) : Stmt := PySem.Challenge.pw_rulestable_k02_rows_of_signs.main.body.getD i (.Pass ⟨0, 0, 0, 0⟩)
abbrev s_is_made_of : Stmt := topS 5
abbrev s_is_sign : Stmt := topS 6
abbrev s_is_row : Stmt := topS 7
abbrev s__law_cell : Stmt := topS 9
abbrev s__law_stir : Stmt := topS 10
abbrev s__law_digits : Stmt := topS 11
abbrev s__law_sign : Stmt := topS 12
abbrev s__law_odd : Stmt := topS 13
abbrev s__law_told : Stmt := topS 14
abbrev s_law : Stmt := topS 15
theorem bt_all : bootBuiltins "all" = some (.builtin "all") := by decide +kernel
theorem bt_bool : bootBuiltins "bool" = some (.type "bool") := by decide +kernel
theorem bt_isinstance : bootBuiltins "isinstance" = some (.builtin "isinstance") := by decide +kernel
theorem bt_len : bootBuiltins "len" = some (.builtin "len") := by decide +kernel
theorem bt_list : bootBuiltins "list" = some (.type "list") := by decide +kernel
theorem bt_max : bootBuiltins "max" = some (.builtin "max") := by decide +kernel
theorem bt_range : bootBuiltins "range" = some (.type "range") := by decide +kernel
theorem bt_str : bootBuiltins "str" = some (.type "str") := by decide +kernel
theorem bt_tuple : bootBuiltins "tuple" = some (.type "tuple") := by decide +kernel
structure Txt (mg : Str → Option Value) : Prop where
  b_all : mg "all" = none
  b_bool : mg "bool" = none
  b_isinstance : mg "isinstance" = none
  b_len : mg "len" = none
  b_list : mg "list" = none
  b_max : mg "max" = none
  b_range : mg "range" = none
  b_str : mg "str" = none
  b_tuple : mg "tuple" = none
  g_FIGURES : GlobIs mg "FIGURES" (.str (Str.ofString "0123456789"))
  g_LONGEST : GlobIs mg "LONGEST" (.int 6)
  g_OTHERS : GlobIs mg "OTHERS" (.str (Str.ofString "+-*/()[]=<>,;.!?^&"))
  g_SMALL : GlobIs mg "SMALL" (.str (Str.ofString "abcdefghijklmnopqrstuvwxyz"))
/-! ### steps (local) -/
local macro_rules | `(tactic| walk_at "sd") => `(tactic| first
  | assumption
  | (with_reducible rfl)
  | omega
  | (constructor <;> omega)
  | (simp only [sizeLine_eq] at *; omega)
  | decide)
local macro_rules | `(tactic| walk_at "bin") => `(tactic| first
  | (with_reducible exact bin_add_int)
  | (with_reducible exact bin_sub)
  | (with_reducible exact bin_eq_int)
  | (with_reducible exact bin_ne_int)
  | (with_reducible exact bin_lt)
  | (with_reducible exact bin_le)
  | (with_reducible exact bin_gt)
  | (with_reducible exact bin_ge)
  | (with_reducible exact bin_eq_str)
  | (with_reducible exact bin_ne_str)
  | (with_reducible exact bin_eq_bl)
  | (with_reducible exact bin_ne_bl)
  | (with_reducible exact bin_in_sg)
  | (with_reducible exact bin_ni_sg)
  | (with_reducible exact bin_le_s)
  | (with_reducible exact bin_lt_s)
  | ((with_reducible apply bin_mod); (focus (walk_at "sd")))
  | ((with_reducible apply bin_div); (focus (walk_at "sd")); (focus (walk_at "sd")))
  | ((with_reducible apply bin_mul64); (focus (walk_at "sd")); (focus (walk_at "sd")))
  | ((with_reducible apply bin_add_str); (focus (walk_at "sd")))
  | ((with_reducible apply bin_add_lst); (focus (walk_at "sd")))
  | ((with_reducible apply bin_add_tup); (focus (walk_at "sd")))
  | ((with_reducible apply bin_I); (focus (walk_at "sd")))
  | ((with_reducible apply bin_mul); (focus (walk_at "sd")))
  | ((with_reducible apply bin_ix_l .lst); (focus (walk_at "sd")))
  | ((with_reducible apply bin_ix_l .fl); (focus (walk_at "sd")))
  | ((with_reducible apply bin_ix_t); (focus (walk_at "sd")))
  | ((with_reducible apply bin_ix_s); (focus (walk_at "sd")); (focus (walk_at "sd")))
  | ((with_reducible apply bin_in_l .lst); (focus (walk_at "sd")); (focus (walk_at "sd")))
  | ((with_reducible apply bin_ni_l .lst); (focus (walk_at "sd")); (focus (walk_at "sd")))
  | ((with_reducible apply bin_in_t); (focus (walk_at "sd")); (focus (walk_at "sd")))
  | ((with_reducible apply bin_ni_t); (focus (walk_at "sd")); (focus (walk_at "sd"))))
local macro_rules | `(tactic| walk_at "ca") => `(tactic| first
  | ((with_reducible apply ca_is_int); (focus (walk_at "sd")))
  | ((with_reducible apply ca_is_bool); (focus (walk_at "sd")))
  | ((with_reducible apply ca_is_str); (focus (walk_at "sd")))
  | ((with_reducible apply ca_is_lst); (focus (walk_at "sd")))
  | ((with_reducible apply ca_is_tup); (focus (walk_at "sd")))
  | ((with_reducible apply ca_is_dic); (focus (walk_at "sd")))
  | (with_reducible exact ca_all .lst)
  | (with_reducible exact ca_any .lst)
  | (with_reducible exact ca_len_l .lst)
  | (with_reducible exact ca_len_l .fl)
  | (with_reducible exact ca_len_t)
  | (with_reducible exact ca_len_d)
  | (with_reducible exact ca_max2)
  | (with_reducible exact ca_min2)
  | (with_reducible exact ca_list .lst)
  | (with_reducible exact ca_list .fl)
  | (with_reducible exact ca_list_t)
  | (with_reducible exact ca_tuple .lst)
  | (with_reducible exact ca_tuple .fl)
  | (with_reducible exact ca_tuple_t)
  | ((with_reducible apply ca_len_s); (focus (walk_at "sd"))))
local macro_rules | `(tactic| walk_at "un") => `(tactic| first
  | (with_reducible exact un_neg'))
local macro_rules | `(tactic| walk_at "rel") => `(tactic| first
  | (constructor <;> walk_at "sd"))
local macro_rules | `(tactic| walk_at "ea") => `(tactic| first
  | (with_reducible exact ea_nil)
  | ((with_reducible apply ea_cons); (focus (walk_at "ev")); (focus (walk_at "ea"))))
local macro_rules | `(tactic| walk_at "ct") => `(tactic| first
  | ((with_reducible apply c_var); rfl))
local macro_rules | `(tactic| walk_at "eo") => `(tactic| first
  | (with_reducible exact eo_none)
  | ((with_reducible apply eo_some); (focus (walk_at "ev"))))
local macro_rules | `(tactic| walk_at "ev") => `(tactic| first
  | (with_reducible exact e_int)
  | (with_reducible exact e_str)
  | (with_reducible exact e_bl)
  | (with_reducible exact e_non)
  | (with_reducible exact e_ty)
  | ((with_reducible apply e_var); rfl)
  | ((with_reducible apply e_op); (focus (walk_at "ev")); (focus (walk_at "ev")); (focus (walk_at "bin")))
  | ((with_reducible apply e_ixC); (focus (walk_at "ct")); (focus (walk_at "ev")); (focus (walk_at "sd")))
  | ((with_reducible apply e_un); (focus (walk_at "ev")); (focus (walk_at "un")))
  | ((with_reducible apply e_cb); (focus (walk_at "ea")); (focus (walk_at "ca")))
  | ((with_reducible apply e_lenC); (focus (walk_at "ct")))
  | ((with_reducible apply e_call0); (focus (walk_at "ea")); (focus (walk_at "rel")))
  | ((with_reducible apply e_andV); (focus (walk_at "ev")); (focus (intro _; walk_at "ev")))
  | ((with_reducible apply e_orV); (focus (walk_at "ev")); (focus (intro _; walk_at "ev")))
  | ((with_reducible apply e_notV); (focus (walk_at "ev")))
  | ((with_reducible apply e_chain); (focus (walk_at "ev")); (focus (walk_at "ev")); (focus (intro _; walk_at "ev")); (focus (walk_at "bin")); (focus (intro _; walk_at "bin")))
  | ((with_reducible apply e_sl_l (hl := .lst)); (focus (walk_at "ev")); (focus (walk_at "eo")); (focus (walk_at "eo")))
  | ((with_reducible apply e_sl_l (hl := .fl)); (focus (walk_at "ev")); (focus (walk_at "eo")); (focus (walk_at "eo")))
  | ((with_reducible apply e_sl_s); (focus (walk_at "ev")); (focus (walk_at "eo")); (focus (walk_at "eo")); (focus (walk_at "sd")))
  | ((with_reducible apply e_sl_t); (focus (walk_at "ev")); (focus (walk_at "eo")); (focus (walk_at "eo")))
  | ((with_reducible apply e_slC); (focus (walk_at "ct")); (focus (walk_at "eo")); (focus (walk_at "eo")))
  | (with_reducible exact e_dnew)
  | ((with_reducible apply e_disp); (focus (walk_at "ep")); (focus (simp)); (focus (simp)))
  | ((with_reducible apply e_tup); (focus (walk_at "ea")); (focus (simp only [List.length_cons, List.length_nil, sizeLine_eq]; omega)))
  | ((with_reducible apply e_lst); (focus (walk_at "ea")); (focus (simp only [List.length_cons, List.length_nil, sizeLine_eq]; omega))))
local macro_rules | `(tactic| walk_at "ep") => `(tactic| first
  | (with_reducible exact ep_nil)
  | ((with_reducible apply ep_str); (focus (walk_at "ev")); (focus (walk_at "ev")); (focus (walk_at "ep")))
  | ((with_reducible apply ep_int); (focus (walk_at "ev")); (focus (walk_at "ev")); (focus (walk_at "ep"))))
local macro_rules | `(tactic| walk_at "le") => `(tactic| first
  | exact Le.nil
  | (apply Le.same; walk_at "le")
  | (apply Le.none; walk_at "le"))
local macro_rules | `(tactic| walk_at "tv") => `(tactic| first
  | ((with_reducible apply t_test); (focus (walk_at "ev")))
  | ((with_reducible apply t_b); (focus (walk_at "ev")))
  | ((with_reducible apply t_not); (focus (walk_at "tv")))
  | ((with_reducible apply t_and); (focus (walk_at "tv")); (focus (intro _; walk_at "tv")))
  | ((with_reducible apply t_or); (focus (walk_at "tv")); (focus (intro _; walk_at "tv"))))
local macro_rules | `(tactic| walk_at "b1") => `(tactic| first
  | ((with_reducible apply b_set); (focus (walk_at "ev")); (try dsimp only [List.set]))
  | ((with_reducible apply b_if); (focus (walk_at "tv")))
  | ((with_reducible apply b_ret); (focus (walk_at "ev")))
  | (with_reducible apply b_next))
local macro_rules | `(tactic| walk_at "bs") => `(tactic| first
  | ((with_reducible apply b_seq); walk_at "b1"))

def allIn (s t : Str) : Bool := s.cps.toList.all fun c => decide (c ∈ t.cps.toList)
def smalls : Str := (Str.ofString "abcdefghijklmnopqrstuvwxyz")
def figs : Str := (Str.ofString "0123456789")
def oths : Str := (Str.ofString "+-*/()[]=<>,;.!?^&")
def short (s : Str) : Bool := decide (1 ≤ (s.length : Int)) && decide ((s.length : Int) ≤ 6)
def sgn (s : Str) : Bool := short s && allIn s (smalls ++ figs ++ oths)
def sgnD : D → Bool
  | .str s => sgn s
  | _ => false
def fits : D → Prop
  | .str s => s.cps.toList.length ≤ 100000
  | _ => True
theorem str_of {d : D} (h : isStr d = true) : ∃ s, d = .str s := by
  cases d <;> first | exact ⟨_, rfl⟩ | cases h
inductive R_is_made_of : List D → D → Prop
  | mk (s t : Str) (h : s.cps.toList.length ≤ 1000) : R_is_made_of [.str s, .str t] (.bl (allIn s t))
theorem sc_is_made_of : FnScope ["text", "some", "sign"] ["text", "some"] (defScope s_is_made_of) := ⟨rfl, rfl, rfl, by decide +kernel, rfl, by decide +kernel, by decide +kernel⟩
theorem ok_is_made_of {P : Program} {w : World} {K : PySem.W.Frag} {mg : Str → Option Value} {base : Heap} (T : Txt mg) (F : DefAt K mg "is_made_of" "is_made_of" s_is_made_of ["text", "some"]) : Callee P w K mg base "is_made_of" 1 ["text", "some"] R_is_made_of := by
  have nd := sc_is_made_of.nd
  refine ok_def F sc_is_made_of (by intro ds d h; cases h; rfl) (fun f cdv A outer s H EX hr => ⟨_, (pss_one (ps_ret (pe_callB (k_all K rfl rfl) (by rfl) T.b_all bt_all (pa_cons (pe_lc (own := [("sign", 2)]) rfl nd (k_it K rfl (pv 0)) (blkOk_by (N := ["text", "some", "sign"]) (sc := defScope s_is_made_of) (by decide +kernel)) (fun _ _ _ _ _ => (pg_name (i := 2) nd rfl (by first | exact Or.inl rfl | exact Or.inr rfl))) (fun _ _ _ _ _ => pts_nil) (fun _ _ _ _ _ => (pe_cmpR (k_in K) (pv 2) (pv 1) (by rfl)))) pa_nil)))), fun I H' ds d hR => ?_⟩)
  cases hR with
  | mk s t h =>
    refine b_ret (d := .bl (allIn s t)) ?_ rfl
    refine e_is (e_cb (ea_cons (e_lcY (xs := s.cps.toList) (em := fun c => .str ⟨#[c]⟩) (f := fun c => decide (c ∈ t.cps.toList)) (emb := D.bl) (src_u_s (z := s) (by walk_at "ev")) (by omega) ?_) ea_nil) (ca_all .lst)) ?_
    · intro i c hc
      exact ⟨_, _, tgt_name, (by simp), (by walk_at "ev")⟩
    · simp [allIn, List.all_map]
inductive R_is_sign : List D → D → Prop
  | mk (d : D) (h : plain d = true) (hf : fits d) : R_is_sign [d] (.bl (sgnD d))
theorem sc_is_sign : FnScope ["thing"] ["thing"] (defScope s_is_sign) := ⟨rfl, rfl, rfl, by decide +kernel, rfl, by decide +kernel, by decide +kernel⟩
theorem ok_is_sign {P : Program} {w : World} {K : PySem.W.Frag} {mg : Str → Option Value} {base : Heap} (T : Txt mg) (F : DefAt K mg "is_sign" "is_sign" s_is_sign ["thing"]) (c_is_made_of : Callee P w K mg base "is_made_of" 1 ["text", "some"] R_is_made_of) : Callee P w K mg base "is_sign" 2 ["thing"] R_is_sign := by
  have nd := sc_is_sign.nd
  refine ok_def F sc_is_sign (by intro ds d h; cases h; rfl) (fun f cdv A outer s H EX hr => ⟨_, (pss_cons (ps_if (PW.pt (pw_or (pt_not (pt_val (pe_callB (k_isi K) (by rfl) T.b_isinstance bt_isinstance (pa_cons (pv 0) (pa_cons (pe_bltn (v := .ty "str") (by rfl) T.b_str bt_str rfl) pa_nil))))) (pw_or1 (pt_not (pt_chain op_uLe op_uLe pe_int (pe_callB (k_len K) (by rfl) T.b_len bt_len (pa_cons (pv 0) pa_nil)) (pe_gl T.g_LONGEST)))))) (pss_one (ps_ret pe_bl)) pss_nil)
      (pss_one (ps_ret (k_call K c_is_made_of hr (by decide) (by rfl) (pa_cons (pv 0) (pa_cons (pe_op (k_add K) (pe_op (k_add K) (pe_gl T.g_SMALL) (pe_gl T.g_FIGURES)) (pe_gl T.g_OTHERS)) pa_nil)))))), fun I H' ds d hR => ?_⟩)
  cases hR with
  | mk d h hf =>
    by_cases hd : isStr d = true
    · obtain ⟨s, rfl⟩ := str_of hd
      have hl : s.length ≤ sizeLine := by rw [sizeLine_eq]; have := hf; simp only [fits] at this; rw [str_length]; omega
      refine b_seq (b_if (b := !short s) ?_ (fun h_ => ?_) (fun h_ => ?_))
      · apply t_is
        · walk_at "tv"
        · rfl
      · refine b_ret (d := .bl false) e_bl ?_
        show D.bl false = _
        simp only [sgnD, sgn]
        simp at h_
        simp [h_]
      · simp at h_
        refine b_next ?_
        have h6 := h_
        simp only [short, Bool.and_eq_true, decide_eq_true_eq] at h6
        refine b_ret_is (d := .bl (allIn s (smalls ++ figs ++ oths))) ?_ ?_ rfl
        · have hl2 : s.cps.toList.length ≤ 1000 := by have := str_length s; omega
          refine e_call0 (R := R_is_made_of) (ds := [.str s, .str (smalls ++ figs ++ oths)]) (ea_cons (e_var rfl) (ea_cons ?_ ea_nil)) (.mk _ _ hl2)
          exact e_op (e_op e_str e_str (bin_add_str (by rw [sizeLine_eq]; decide +kernel))) e_str (bin_add_str (by rw [sizeLine_eq]; decide +kernel))
        · simp [sgnD, sgn, h_]
    · have hd' : isStr d = false := by simpa using hd
      have e0 : sgnD d = false := by cases d <;> first | rfl | cases hd'
      refine b_seq (b_if (b := true) ?_ (fun h_ => ?_) (fun h_ => by cases h_))
      · refine t_is (t_or (a := !isStr d) (b := true) (t_not (t_b ?_)) (fun z => ?_)) (by simp)
        · walk_at "ev"
        · simp [hd'] at z
      · rw [e0]
        exact b_ret (d := .bl false) e_bl rfl
def rowD (d : D) (m : Int) : Bool := match d with
  | .lst ds => decide ((ds.length : Int) ≤ m) && ds.all sgnD
  | .fl ds => decide ((ds.length : Int) ≤ m) && ds.all sgnD
  | _ => false
inductive R_is_row : List D → D → Prop
  | mk (d : D) (m : Int) (h : plain d = true) (hi : ∀ ds, LD d ds → ds.length ≤ 100000 ∧ ∀ x ∈ ds, plain x = true ∧ fits x) : R_is_row [d, .int m] (.bl (rowD d m))
theorem lst_of {d : D} (h : isLst d = true) : ∃ ds, LD d ds := by
  cases d <;> first | exact ⟨_, .lst⟩ | exact ⟨_, .fl⟩ | cases h
theorem rowD_l {d : D} {ds : List D} {m : Int} (h : LD d ds) : rowD d m = (decide ((ds.length : Int) ≤ m) && ds.all sgnD) := by cases h <;> rfl
theorem sc_is_row : FnScope ["thing", "most", "sign"] ["thing", "most"] (defScope s_is_row) := ⟨rfl, rfl, rfl, by decide +kernel, rfl, by decide +kernel, by decide +kernel⟩
theorem ok_is_row {P : Program} {w : World} {K : PySem.W.Frag} {mg : Str → Option Value} {base : Heap} (T : Txt mg) (F : DefAt K mg "is_row" "is_row" s_is_row ["thing", "most"]) (c_is_sign : Callee P w K mg base "is_sign" 2 ["thing"] R_is_sign) : Callee P w K mg base "is_row" 3 ["thing", "most"] R_is_row := by
  have nd := sc_is_row.nd
  refine ok_def F sc_is_row (by intro ds d h; cases h; rfl) (fun f cdv A outer s H EX hr => ⟨_, (pss_cons (ps_if (PW.pt (pw_or (pt_not (pt_val (pe_callB (k_isi K) (by rfl) T.b_isinstance bt_isinstance (pa_cons (pv 0) (pa_cons (pe_bltn (v := .ty "list") (by rfl) T.b_list bt_list rfl) pa_nil))))) (pw_or1 (pt_cmpR op_uGt (pe_callB (k_len K) (by rfl) T.b_len bt_len (pa_cons (pv 0) pa_nil)) (pv 1) (nomark _))))) (pss_one (ps_ret pe_bl)) pss_nil)
      (pss_one (ps_ret (pe_callB (k_all K rfl rfl) (by rfl) T.b_all bt_all (pa_cons (pe_lc (own := [("sign", 2)]) rfl nd (k_it K rfl (pv 0)) (blkOk_by (N := ["thing", "most", "sign"]) (sc := defScope s_is_row) (by decide +kernel)) (fun _ _ _ _ _ => (pg_name (i := 2) nd rfl (by first | exact Or.inl rfl | exact Or.inr rfl))) (fun _ _ _ _ _ => pts_nil) (fun _ _ _ _ _ => (k_call K c_is_sign hr (by decide) (by rfl) (pa_cons (pv 2) pa_nil)))) pa_nil))))), fun I H' ds d hR => ?_⟩)
  cases hR with
  | mk d m h hi =>
    by_cases hd : isLst d = true
    · obtain ⟨xs, hx⟩ := lst_of hd
      obtain ⟨hlen, hall⟩ := hi xs hx
      refine b_seq (b_if (b := !isLst d || decide (m < (xs.length : Int))) ?_ (fun h_ => ?_) (fun h_ => ?_))
      · exact t_or (t_not (t_b (e_cb (ea_cons (e_var rfl) (ea_cons e_ty ea_nil)) (ca_is_lst h)))) (fun _ => t_test (e_op (e_cb (ea_cons (e_var rfl) ea_nil) (ca_len_l hx)) (e_var rfl) bin_gt))
      · rw [hd] at h_
        simp only [Bool.not_true, Bool.false_or, decide_eq_true_eq] at h_
        refine b_ret (d := .bl false) e_bl ?_
        show D.bl false = _
        rw [rowD_l hx, decide_eq_false (by omega)]
        rfl
      · rw [hd] at h_
        simp only [Bool.not_true, Bool.false_or, decide_eq_false_iff_not] at h_
        refine b_next (b_ret_is (d := .bl ((xs.map sgnD).all id)) ?_ ?_ rfl)
        · refine e_cb (ea_cons (e_lcY (xs := xs) (em := id) (f := sgnD) (emb := D.bl) (src_u_l (e_var rfl) (by rw [List.map_id]; exact hx)) (by omega) ?_) ea_nil) (ca_all .lst)
          intro i x hxi
          obtain ⟨p1, p2⟩ := hall x (List.mem_of_getElem? hxi)
          exact ⟨_, _, tgt_name, (by simp), e_call0 (R := R_is_sign) (ds := [x]) (ea_cons (e_var rfl) ea_nil) (.mk x p1 p2)⟩
        · rw [rowD_l hx, decide_eq_true (by omega), List.all_map]
          rfl
    · have hd' : isLst d = false := by simpa using hd
      have e0 : rowD d m = false := by cases d <;> first | rfl | cases hd'
      refine b_seq (b_if (b := true) (t_is (t_or (a := !isLst d) (b := true) (t_not (t_b (e_cb (ea_cons (e_var rfl) (ea_cons e_ty ea_nil)) (ca_is_lst h)))) (fun z => ?_)) (by simp)) (fun h_ => ?_) (fun h_ => by cases h_))
      · simp [hd'] at z
      · rw [e0]
        exact b_ret (d := .bl false) e_bl rfl
inductive R__law_cell : List D → D → Prop
  | mk (ns : List Int) (k : Nat) (h : ns.length ≤ 100) : R__law_cell [.fl (ns.map D.int), .int k] (.int (ns.getD k 0))
theorem sc__law_cell : FnScope ["_law_script", "_law_k"] ["_law_script", "_law_k"] (defScope s__law_cell) := ⟨rfl, rfl, rfl, by decide +kernel, rfl, by decide +kernel, by decide +kernel⟩
theorem ok__law_cell {P : Program} {w : World} {K : PySem.W.Frag} {mg : Str → Option Value} {base : Heap} (T : Txt mg) (F : DefAt K mg "_law_cell" "_law_cell" s__law_cell ["_law_script", "_law_k"]) : Callee P w K mg base "_law_cell" 1 ["_law_script", "_law_k"] R__law_cell := by
  have nd := sc__law_cell.nd
  refine ok_def F sc__law_cell (by intro ds d h; cases h; rfl) (fun f cdv A outer s H EX hr => ⟨_, (pss_cons (ps_if (pt_cmpR op_uLt (pv 1) (pe_callB (k_len K) (by rfl) T.b_len bt_len (pa_cons (pv 0) pa_nil)) (nomark _)) (pss_one (ps_ret (pe_ix (k_ix K) (pv 0) (pv 1) (fun _ _ => rfl)))) pss_nil)
      (pss_one (ps_ret pe_int))), fun I H' ds d hR => ?_⟩)
  cases hR with
  | mk ns k h =>
    refine b_seq (b_if (b := decide ((k : Int) < ((ns.map D.int).length : Int))) ?_ (fun h_ => ?_) (fun h_ => ?_))
    · walk_at "tv"
    · simp only [decide_eq_true_eq, List.length_map] at h_
      have hk : k < ns.length := by omega
      have e : atI (ns.map D.int) (k : Int) = some (.int (ns.getD k 0)) := by
        refine atI_nat ?_
        rw [List.getElem?_map, List.getElem?_eq_getElem hk, List.getD_eq_getElem?_getD, List.getElem?_eq_getElem hk]
        rfl
      exact b_ret (e_op (e_var rfl) (e_var rfl) (bin_ix_l .fl e)) rfl
    · simp only [decide_eq_false_iff_not, List.length_map] at h_
      refine b_next (b_ret (d := .int 0) e_int ?_)
      show D.int 0 = _
      rw [List.getD_eq_getElem?_getD, List.getElem?_eq_none (by omega)]
      rfl
def stir (c k : Int) : Int :=
  let n := (c % 2147483647 * 48271 + 69621 * k + 7) % 2147483647
  let m := n * n % 2147483629
  (m * m + 16807 * m + 11) % 2147483587
theorem stir_lo (c k : Int) : 0 ≤ stir c k := by unfold stir; simp only; omega
inductive R__law_stir : List D → D → Prop
  | mk (c k : Int) (h : -1000 ≤ k ∧ k ≤ 1000) : R__law_stir [.int c, .int k] (.int (stir c k))
theorem sc__law_stir : FnScope ["_law_cell_here", "_law_k", "_law_number"] ["_law_cell_here", "_law_k"] (defScope s__law_stir) := ⟨rfl, rfl, rfl, by decide +kernel, rfl, by decide +kernel, by decide +kernel⟩
theorem ok__law_stir {P : Program} {w : World} {K : PySem.W.Frag} {mg : Str → Option Value} {base : Heap} (T : Txt mg) (F : DefAt K mg "_law_stir" "_law_stir" s__law_stir ["_law_cell_here", "_law_k"]) : Callee P w K mg base "_law_stir" 1 ["_law_cell_here", "_law_k"] R__law_stir := by
  have nd := sc__law_stir.nd
  refine ok_def F sc__law_stir (by intro ds d h; cases h; rfl) (fun f cdv A outer s H EX hr => ⟨_, (pss_cons (ps_set (i := 2) nd rfl (Or.inl rfl) (pe_op op_modN (pe_op (k_add K) (pe_op (k_add K) (pe_op op_uMul (pe_op op_modN (pv 0) pe_int) pe_int) (pe_op op_uMul pe_int (pv 1))) pe_int) pe_int))
      (pss_cons (ps_set (i := 2) nd rfl (Or.inl rfl) (pe_op op_modN (pe_op op_uMul (pv 2) (pv 2)) pe_int))
      (pss_one (ps_ret (pe_op op_modN (pe_op (k_add K) (pe_op (k_add K) (pe_op op_uMul (pv 2) (pv 2)) (pe_op op_uMul pe_int (pv 2))) pe_int) pe_int))))), fun I H' ds d hR => ?_⟩)
  cases hR with
  | mk c k h =>
    walk_at "bs"
    walk_at "bs"
    apply b_ret_is (k := rfl)
    · walk_at "ev"
    · rfl
def digStep (c b : Int) (st : Int × List Int) (k : Nat) : Int × List Int :=
  if 1000000000000000000 ≤ c then (st.1 / b, st.2 ++ [st.1 % b]) else (st.1, st.2 ++ [stir c k / 8 % b])
def digs (c b n : Int) : List Int := ((List.range n.toNat).foldl (digStep c b) (c - 1000000000000000000, [])).2
theorem digs_all (c b : Int) (hb : 0 < b) : ∀ (l : List Nat) (st : Int × List Int), (∀ x ∈ st.2, 0 ≤ x ∧ x < b) → (∀ x ∈ (l.foldl (digStep c b) st).2, 0 ≤ x ∧ x < b) ∧ (l.foldl (digStep c b) st).2.length = st.2.length + l.length
  | [], st, h => ⟨h, rfl⟩
  | k :: l, st, h => by
    have h2 : (∀ x ∈ (digStep c b st k).2, 0 ≤ x ∧ x < b) ∧ (digStep c b st k).2.length = st.2.length + 1 := by
      unfold digStep
      split
      · refine ⟨fun x hx => ?_, by simp⟩
        rcases List.mem_append.mp hx with hx | hx
        · exact h x hx
        · rw [List.mem_singleton] at hx; subst hx
          exact ⟨Int.emod_nonneg _ (by omega), Int.emod_lt_of_pos _ hb⟩
      · refine ⟨fun x hx => ?_, by simp⟩
        rcases List.mem_append.mp hx with hx | hx
        · exact h x hx
        · rw [List.mem_singleton] at hx; subst hx
          exact ⟨Int.emod_nonneg _ (by omega), Int.emod_lt_of_pos _ hb⟩
    obtain ⟨a, e⟩ := digs_all c b hb l _ h2.1
    exact ⟨a, by rw [List.foldl_cons, e, h2.2, List.length_cons]; omega⟩
theorem digs_len (c b n : Int) (hb : 0 < b) : (digs c b n).length = n.toNat := by
  have := (digs_all c b hb (List.range n.toNat) (c - 1000000000000000000, []) (by simp)).2
  simpa [digs] using this
theorem digs_mem (c b n : Int) (hb : 0 < b) : ∀ x ∈ digs c b n, 0 ≤ x ∧ x < b := (digs_all c b hb (List.range n.toNat) (c - 1000000000000000000, []) (by simp)).1
inductive R__law_digits : List D → D → Prop
  | mk (c b n : Int) (hb : 0 < b ∧ b < 2 ^ 60) (hn : 0 ≤ n ∧ n ≤ 100) : R__law_digits [.int c, .int b, .int n] (.lst ((digs c b n).map D.int))
theorem sc__law_digits : FnScope ["_law_cell_here", "_law_base", "_law_count", "_law_found", "_law_left", "_law_k"] ["_law_cell_here", "_law_base", "_law_count"] (defScope s__law_digits) := ⟨rfl, rfl, rfl, by decide +kernel, rfl, by decide +kernel, by decide +kernel⟩
theorem ok__law_digits {P : Program} {w : World} {K : PySem.W.Frag} {mg : Str → Option Value} {base : Heap} (T : Txt mg) (F : DefAt K mg "_law_digits" "_law_digits" s__law_digits ["_law_cell_here", "_law_base", "_law_count"]) (c__law_stir : Callee P w K mg base "_law_stir" 1 ["_law_cell_here", "_law_k"] R__law_stir) : Callee P w K mg base "_law_digits" 2 ["_law_cell_here", "_law_base", "_law_count"] R__law_digits := by
  have nd := sc__law_digits.nd
  refine ok_def F sc__law_digits (by intro ds d h; cases h; rfl) (fun f cdv A outer s H EX hr => ⟨_, (pss_cons (ps_set (i := 3) nd rfl (Or.inl rfl) (pe_lst pa_nil))
      (pss_cons (ps_set (i := 4) nd rfl (Or.inl rfl) (pe_op op_sub (pv 0) (pe_op op_pow pe_int pe_int)))
      (pss_cons (ps_for PassesOwn.never rfl (pi_range1 (by rfl) T.b_range (pa_cons (pv 2) pa_nil)) (pg_name (i := 5) nd rfl (Or.inl rfl)) (pss_one (ps_if (pt_cmpR op_uGe (pv 0) (pe_op op_pow pe_int pe_int) (nomark _)) (pss_cons (ps_expr (k_bm K rfl PySem.F.plainAttrs_list PySem.F.slot_list_append PySem.F.type_list_append mt_append (pv 3) (pa_cons (pe_op op_modN (pv 4) (pv 1)) pa_nil)))
      (pss_one (ps_set (i := 4) nd rfl (Or.inl rfl) (pe_op op_fdivW (pv 4) (pv 1))))) (pss_one (ps_expr (k_bm K rfl PySem.F.plainAttrs_list PySem.F.slot_list_append PySem.F.type_list_append mt_append (pv 3) (pa_cons (pe_op op_modN (pe_op op_fdivW (k_call K c__law_stir hr (by decide) (by rfl) (pa_cons (pv 0) (pa_cons (pv 5) pa_nil))) pe_int) (pv 1)) pa_nil)))))))
      (pss_one (ps_ret (pv 3)))))), fun I H' ds d hR => ?_⟩)
  cases hR with
  | mk c b n hb hn =>
    refine b_seq (b_new ea_nil (by simp [sizeLine_eq]) (fun p hp => nomatch hp) ?_)
    refine b_seq (b_set (d := .int (c - 1000000000000000000)) (e_op (e_var rfl) (e_op e_int e_int (bin_pow ⟨by decide, by decide, by decide⟩ (r := 1000000000000000000) (by decide))) bin_sub) ?_)
    refine b_seq (b_fold (xs := List.range n.toNat) (em := fun k => .int (k : Int)) (src_rng1 (ea_cons (e_var rfl) ea_nil) (by omega) (by omega)) (digStep c b) (fun i s => s.2.length = i)
      (fun s => [some (.im (.int c)), some (.im (.int b)), some (.im (.int n)), some (.mu (.lst (s.2.map D.int))), some (.im (.int s.1)), none]) (c - 1000000000000000000, []) rfl (.same (.same (.same (.same (.same (.none .nil)))))) ?_ ?_ ?_)
    · intro i s x hx hi
      unfold digStep
      split <;> simp [hi]
    · intro i s x hx hi
      have hx2 : x < n.toNat := by
        have := List.mem_of_getElem? hx
        simpa using this
      have hi2 := (List.getElem?_eq_some_iff.mp hx).1
      rw [List.length_range] at hi2
      refine ⟨_, _, tgt_name, ?_⟩
      refine b_if (b := decide (1000000000000000000 ≤ c)) ?_ (fun h_ => ?_) (fun h_ => ?_)
      · exact t_test (e_op (e_var rfl) (e_op e_int e_int (bin_pow ⟨by decide, by decide, by decide⟩ (r := 1000000000000000000) (by decide))) bin_ge)
      · simp only [decide_eq_true_eq] at h_
        refine b_seq (b_append (i := 3) rfl (d := .int (s.1 % b)) (e_op (e_var rfl) (e_var rfl) (bin_mod hb.1)) (by rw [List.length_map, sizeLine_eq]; omega) ?_)
        refine b_set (d := .int (s.1 / b)) (e_op (e_var rfl) (e_var rfl) (bin_div hb.1 (by omega))) ?_
        unfold digStep
        rw [if_pos h_]
        simp only [List.map_append]
        exact .same (.same (.same (.same (.same (.none .nil)))))
      · simp only [decide_eq_false_iff_not] at h_
        refine b_append (i := 3) rfl (d := .int (stir c x / 8 % b)) ?_ (by rw [List.length_map, sizeLine_eq]; omega) ?_
        · exact e_op (e_op (e_call0 (R := R__law_stir) (ds := [.int c, .int x]) (ea_cons (e_var rfl) (ea_cons (e_var rfl) ea_nil)) (.mk _ _ (by omega))) e_int (bin_div (by decide) (by decide))) (e_var rfl) (bin_mod hb.1)
        · unfold digStep
          rw [if_neg h_]
          simp only [List.map_append]
          exact .same (.same (.same (.same (.same (.none .nil)))))
    · intro _
      refine b_freeze 3 rfl (fun p hp => nomatch hp) ?_
      exact b_ret (e_var rfl) rfl
inductive R__law_told : List D → D → Prop
  | mk (a b : Bool) : R__law_told [.bl a, .bl b] (.bl (decide (a = b)))
theorem sc__law_told : FnScope ["_law_found", "_law_due"] ["_law_found", "_law_due"] (defScope s__law_told) := ⟨rfl, rfl, rfl, by decide +kernel, rfl, by decide +kernel, by decide +kernel⟩
theorem ok__law_told {P : Program} {w : World} {K : PySem.W.Frag} {mg : Str → Option Value} {base : Heap} (T : Txt mg) (F : DefAt K mg "_law_told" "_law_told" s__law_told ["_law_found", "_law_due"]) : Callee P w K mg base "_law_told" 1 ["_law_found", "_law_due"] R__law_told := by
  have nd := sc__law_told.nd
  refine ok_def F sc__law_told (by intro ds d h; cases h; rfl) (fun f cdv A outer s H EX hr => ⟨_, (pss_one (ps_ret (pe_and (pe_callB (k_isi K) (by rfl) T.b_isinstance bt_isinstance (pa_cons (pv 0) (pa_cons (pe_bltn (v := .ty "bool") (by rfl) T.b_bool bt_bool rfl) pa_nil))) (pe_one (pe_cmpR (k_eq K rfl hr.units) (pv 0) (pv 1) (nomark _)))))), fun I H' ds d hR => ?_⟩)
  cases hR with
  | mk a b =>
    apply b_ret_is (k := rfl)
    · walk_at "ev"
    · simp [isBool]
def one (z : Str) (i : Int) : Str := ⟨#[z.cps.toList.getD i.toNat 0]⟩
def L54 : Str := (Str.ofString "abcdefghijklmnopqrstuvwxyz0123456789+-*/()[]=<>,;.!?^&")
theorem L54_len : L54.cps.toList.length = 54 := by decide +kernel
theorem L54_eq : (smalls ++ figs ++ oths) = L54 := by decide +kernel
theorem L54_ok : ∀ c ∈ L54.cps.toList, c < 1114112 := by decide +kernel
def sgDigs (n : Int) : List Int := digs (n / 6) 54 (1 + n % 6)
def lawSign (n : Int) : Str := Txt.join (Str.ofString "") ((sgDigs n).map fun d => one L54 d)
theorem joinL_codes : ∀ l : List Nat, TL.joinL [] (l.map fun c => [c]) = l
  | [] => rfl
  | [p] => rfl
  | p :: q :: r => by
    have := joinL_codes (q :: r)
    simp only [List.map_cons] at this ⊢
    rw [TL.joinL, this]
    rfl
theorem lawSign_codes (n : Int) : (lawSign n).cps.toList = (sgDigs n).map fun d => L54.cps.toList.getD d.toNat 0 := by
  unfold lawSign
  rw [TL.join_eq]
  show TL.tl _ = _
  rw [TL.tl_join]
  have e0 : TL.tl (Str.ofString "") = [] := by decide +kernel
  have e1 : ((sgDigs n).map fun d => one L54 d).map TL.tl = ((sgDigs n).map fun d => L54.cps.toList.getD d.toNat 0).map fun c => [c] := by
    rw [List.map_map, List.map_map]; rfl
  rw [e0, e1, joinL_codes]
theorem sgDigs_len (n : Int) : (sgDigs n).length = (1 + n % 6).toNat := digs_len _ _ _ (by decide)
theorem sgDigs_mem (n : Int) : ∀ x ∈ sgDigs n, 0 ≤ x ∧ x < 54 := digs_mem _ _ _ (by decide)
theorem lawSign_len (n : Int) : 1 ≤ (lawSign n).cps.toList.length ∧ (lawSign n).cps.toList.length ≤ 6 := by
  rw [lawSign_codes, List.length_map, sgDigs_len]; omega
theorem lawSign_mem (n : Int) : ∀ c ∈ (lawSign n).cps.toList, c ∈ L54.cps.toList := by
  intro c hc
  rw [lawSign_codes, List.mem_map] at hc
  obtain ⟨d, hd, rfl⟩ := hc
  have := sgDigs_mem n d hd
  rw [List.getD_eq_getElem?_getD, List.getElem?_eq_getElem (by rw [L54_len]; omega)]
  exact List.getElem_mem _
theorem lawSign_sgn (n : Int) : sgn (lawSign n) = true := by
  have h := lawSign_len n
  unfold sgn short allIn
  rw [L54_eq, Bool.and_eq_true, Bool.and_eq_true, decide_eq_true_eq, decide_eq_true_eq, str_length, List.all_eq_true]
  exact ⟨⟨by omega, by omega⟩, fun c hc => by simpa using lawSign_mem n c hc⟩
theorem lawSign_ok (n : Int) : okS (lawSign n) = true := okS_of fun c hc => L54_ok c (lawSign_mem n c hc)
inductive R__law_sign : List D → D → Prop
  | mk (n : Int) (h : 0 ≤ n) : R__law_sign [.int n] (.str (lawSign n))
def odds : List D := [.str (Str.ofString ""), .str (Str.ofString "abcdefg"), .str (Str.ofString "A"), .str (Str.ofString "Abc"), .str (Str.ofString "$"), .str (Str.ofString " "), .str (Str.ofString "a b"), .str (Str.ofString "_"), .str (Str.ofString "|"), .int 5, .int 0, .bl true, .non, .lst [.str (Str.ofString "a")], .tup [.str (Str.ofString "a")], .dic [] []]
def oddOf (n : Int) : D := odds.getD (n % 16).toNat .non
theorem odds_no : ∀ d ∈ odds, plain d = true ∧ fits d ∧ sgnD d = false := by
  intro d hd
  simp only [odds, List.mem_cons, List.not_mem_nil, or_false] at hd
  rcases hd with rfl | rfl | rfl | rfl | rfl | rfl | rfl | rfl | rfl | rfl | rfl | rfl | rfl | rfl | rfl | rfl
  all_goals first
    | exact ⟨rfl, trivial, rfl⟩
    | exact ⟨rfl, by show _ ≤ _; decide +kernel, by show sgn _ = false; decide +kernel⟩
theorem oddOf_mem (n : Int) : oddOf n ∈ odds := by
  unfold oddOf
  rw [List.getD_eq_getElem?_getD, List.getElem?_eq_getElem (by show (n % 16).toNat < 16; omega)]
  exact List.getElem_mem _
inductive R__law_odd : List D → D → Prop
  | mk (n : Int) : R__law_odd [.int n] (oddOf n)
def rwLeft (c : Int) : Int := if -1 - c > c then -1 - c else c
def rwMany (c : Int) : Int := rwLeft c % 13
def rwRow (c : Int) : List Str := (digs (rwLeft c / 13) 148769467776 (rwMany c)).map lawSign
theorem rwMany_b (c : Int) : 0 ≤ rwMany c ∧ rwMany c < 13 := by unfold rwMany; omega
theorem rwRow_len (c : Int) : (rwRow c).length = (rwMany c).toNat := by unfold rwRow; rw [List.length_map, digs_len _ _ _ (by decide)]
theorem rwRow_all (c : Int) : ∀ s ∈ rwRow c, sgn s = true ∧ okS s = true ∧ s.cps.toList.length ≤ 6 := by
  intro s hs
  unfold rwRow at hs
  rw [List.mem_map] at hs
  obtain ⟨n, _, rfl⟩ := hs
  exact ⟨lawSign_sgn n, lawSign_ok n, (lawSign_len n).2⟩
def rwD (c : Int) : List D := (rwRow c).map D.str
theorem rwD_len (c : Int) : (rwD c).length = (rwMany c).toNat := by unfold rwD; rw [List.length_map, rwRow_len]
theorem rwD_all (c : Int) : ∀ d ∈ rwD c, plain d = true ∧ fits d ∧ sgnD d = true := by
  intro d hd
  unfold rwD at hd
  rw [List.mem_map] at hd
  obtain ⟨s, hs, rfl⟩ := hd
  have := rwRow_all c s hs
  exact ⟨rfl, by show _ ≤ _; omega, this.1⟩
theorem rwD_sgn (c : Int) : (rwD c).all sgnD = true := by
  rw [List.all_eq_true]
  intro d hd
  exact (rwD_all c d hd).2.2
theorem rwD_ok (c : Int) : okD (.lst (rwD c)) = true := by
  rw [okD]; exact okDs_strs fun x hx => (rwRow_all c x hx).2.1
theorem rwD_dep (c : Int) : depD (.lst (rwD c)) ≤ 64 := by
  rw [depD, rwD, depDs_strs]; decide
theorem rwD_eq (c : Int) : eqD (.lst (rwD c)) (.lst (rwD c)) = true := by
  rw [eqD_lst, rwD, eqDs_strs]; simp
theorem cutD_lo (xs : List D) (i : Int) : cutD xs (some i) none = xs.drop (HT.sIx xs.length 0 (some i)) := by
  unfold cutD
  rw [sIxN, List.take_of_length_le (by rw [List.length_drop]; omega)]
theorem cutD_mem {xs : List D} {lo hi : Option Int} {d : D} (h : d ∈ cutD xs lo hi) : d ∈ xs := List.mem_of_mem_drop (List.mem_of_mem_take h)
theorem cutD_len (xs : List D) (lo hi : Option Int) : (cutD xs lo hi).length ≤ xs.length := by
  unfold cutD
  rw [List.length_take, List.length_drop]; omega
def others : List D := [.non, .int 5, .bl true, .str (Str.ofString "ab"), .str (Str.ofString ""), .dic [] [], .dic [.inr (Str.ofString "a")] [.str (Str.ofString "b")], .tup [.str (Str.ofString "a"), .str (Str.ofString "b")], .tup []]
theorem others_no : ∀ d ∈ others, plain d = true ∧ rowD d 4 = false ∧ isLst d = false := by
  intro d hd
  simp only [others, List.mem_cons, List.not_mem_nil, or_false] at hd
  rcases hd with rfl | rfl | rfl | rfl | rfl | rfl | rfl | rfl | rfl
  all_goals exact ⟨rfl, rfl, rfl⟩
theorem no_ld {d : D} {ds : List D} (h : isLst d = false) (l : LD d ds) : False := by cases l <;> cases h
theorem plus_sgn : sgnD (.str (Str.ofString "+")) = true := by show sgn _ = true; decide +kernel
inductive R_law : List D → D → Prop
  | mk (ns : List Int) (h : ns.length ≤ 63) : R_law [.fl (ns.map D.int)] (.bl true)
theorem sc__law_sign : FnScope ["_law_number", "_law_some", "_law_digit"] ["_law_number"] (defScope s__law_sign) := ⟨rfl, rfl, rfl, by decide +kernel, rfl, by decide +kernel, by decide +kernel⟩
theorem ok__law_sign {P : Program} {w : World} {K : PySem.W.Frag} {mg : Str → Option Value} {base : Heap} (T : Txt mg) (F : DefAt K mg "_law_sign" "_law_sign" s__law_sign ["_law_number"]) (c__law_digits : Callee P w K mg base "_law_digits" 2 ["_law_cell_here", "_law_base", "_law_count"] R__law_digits) : Callee P w K mg base "_law_sign" 3 ["_law_number"] R__law_sign := by
  have nd := sc__law_sign.nd
  refine ok_def F sc__law_sign (by intro ds d h; cases h; rfl) (fun f cdv A outer s H EX hr => ⟨_, (pss_cons (ps_set (i := 1) nd rfl (Or.inr rfl) pe_str)
      (pss_one (ps_ret (k_join K rfl pe_str (pe_lc (own := [("_law_digit", 2)]) rfl nd (k_it K rfl (k_call K c__law_digits hr (by decide) (by rfl) (pa_cons (pe_op op_fdivW (pv 0) pe_int) (pa_cons pe_int (pa_cons (pe_op (k_add K) pe_int (pe_op op_modN (pv 0) pe_int)) pa_nil))))) (blkOk_by (N := ["_law_number", "_law_some", "_law_digit"]) (sc := defScope s__law_sign) (by decide +kernel)) (fun _ _ _ _ _ => (pg_name (i := 2) nd rfl (by first | exact Or.inl rfl | exact Or.inr rfl))) (fun _ _ _ _ _ => pts_nil) (fun _ _ _ _ _ => (pe_ix (k_ix K) (pv 1) (pv 2) (fun _ _ => rfl)))))))), fun I H' ds d hR => ?_⟩)
  cases hR with
  | mk n hn0 =>
    have hl := sgDigs_len n
    have hm := sgDigs_mem n
    refine b_seq (b_set (d := .str L54) e_str ?_)
    refine b_ret (d := .str (lawSign n)) ?_ rfl
    refine e_join (ys := (sgDigs n).map fun d => one L54 d) e_str (E.c (e_lcY (xs := sgDigs n) (em := D.int) (f := fun d => one L54 d) (emb := D.str) (src_u_l (e_call0 (R := R__law_digits) (ds := [.int (n / 6), .int 54, .int (1 + n % 6)]) (ea_cons (e_op (e_var rfl) e_int (bin_div (by decide) (by decide))) (ea_cons e_int (ea_cons (e_op e_int (e_op (e_var rfl) e_int (bin_mod (by decide))) bin_add_int) ea_nil))) (.mk _ _ _ (by decide) (by omega))) .lst) (by omega) ?_) .lst) ?_
    · intro i x hx
      have hx2 := hm x (List.mem_of_getElem? hx)
      refine ⟨_, _, tgt_name, (by simp), ?_⟩
      refine e_op (e_var rfl) (e_var rfl) (bin_ix_s (by rw [sizeLine_eq]; decide +kernel) ?_)
      exact atI_getD 0 hx2.1 (by rw [L54_len]; omega)
    · rw [List.map_map, List.length_map]
      have e : ∀ l : List Int, (l.map ((fun s : Str => s.length) ∘ fun d => one L54 d)).sum = l.length := fun l => by
        induction l with
        | nil => rfl
        | cons a l ih => rw [List.map_cons, List.sum_cons, ih, List.length_cons]; show 1 + _ = _; omega
      rw [e]
      show _ + _ * 0 ≤ _
      omega
theorem sc__law_odd : FnScope ["_law_number", "_law_some"] ["_law_number"] (defScope s__law_odd) := ⟨rfl, rfl, rfl, by decide +kernel, rfl, by decide +kernel, by decide +kernel⟩
theorem ok__law_odd {P : Program} {w : World} {K : PySem.W.Frag} {mg : Str → Option Value} {base : Heap} (T : Txt mg) (F : DefAt K mg "_law_odd" "_law_odd" s__law_odd ["_law_number"]) : Callee P w K mg base "_law_odd" 1 ["_law_number"] R__law_odd := by
  have nd := sc__law_odd.nd
  refine ok_def F sc__law_odd (by intro ds d h; cases h; rfl) (fun f cdv A outer s H EX hr => ⟨_, (pss_cons (ps_set (i := 1) nd rfl (Or.inl rfl) (pe_lst (pa_cons pe_str (pa_cons pe_str (pa_cons pe_str (pa_cons pe_str (pa_cons pe_str (pa_cons pe_str (pa_cons pe_str (pa_cons pe_str (pa_cons pe_str (pa_cons pe_int (pa_cons pe_int (pa_cons pe_bl (pa_cons pe_non (pa_cons (pe_lst (pa_cons pe_str pa_nil)) (pa_cons (pe_tup (pa_cons pe_str pa_nil)) (pa_cons pe_dnewK pa_nil))))))))))))))))))
      (pss_one (ps_ret (pe_ix (k_ix K) (pv 1) (pe_op op_modN (pv 0) pe_int) (fun _ _ => rfl))))), fun I H' ds d hR => ?_⟩)
  cases hR with
  | mk n =>
    refine b_seq (b_set (d := .lst odds) (e_lst (ea_cons e_str (ea_cons e_str (ea_cons e_str (ea_cons e_str (ea_cons e_str (ea_cons e_str (ea_cons e_str (ea_cons e_str (ea_cons e_str (ea_cons e_int (ea_cons e_int (ea_cons e_bl (ea_cons e_non (ea_cons (e_lst (ea_cons e_str ea_nil) (by decide)) (ea_cons (e_tup (ea_cons e_str ea_nil) (by decide)) (ea_cons e_dnew ea_nil)))))))))))))))) (by decide)) ?_)
    refine b_ret (d := oddOf n) (e_op (e_var rfl) (e_op (e_var rfl) e_int (bin_mod (by decide))) (bin_ix_l .lst ?_)) rfl
    exact atI_getD D.non (by omega) (by show _ < ((16 : Nat) : Int); omega)
theorem sc_law : FnScope ["_law_script", "_law_cell_here", "_law_left", "_law_many", "_law_row", "_law_most", "_law_handed", "_law_at", "_law_spoilt", "_law_size", "_law_others", "_law_number", "_law_thing"] ["_law_script"] (defScope s_law) := ⟨rfl, rfl, rfl, by decide +kernel, rfl, by decide +kernel, by decide +kernel⟩
theorem ok_law {P : Program} {w : World} {K : PySem.W.Frag} {mg : Str → Option Value} {base : Heap} (T : Txt mg) (F : DefAt K mg "law" "law" s_law ["_law_script"]) (c__law_cell : Callee P w K mg base "_law_cell" 1 ["_law_script", "_law_k"] R__law_cell) (c__law_told : Callee P w K mg base "_law_told" 1 ["_law_found", "_law_due"] R__law_told) (c__law_sign : Callee P w K mg base "_law_sign" 3 ["_law_number"] R__law_sign) (c__law_stir : Callee P w K mg base "_law_stir" 1 ["_law_cell_here", "_law_k"] R__law_stir) (c_is_row : Callee P w K mg base "is_row" 3 ["thing", "most"] R_is_row) (c__law_digits : Callee P w K mg base "_law_digits" 2 ["_law_cell_here", "_law_base", "_law_count"] R__law_digits) (c__law_odd : Callee P w K mg base "_law_odd" 1 ["_law_number"] R__law_odd) : Callee P w K mg base "law" 4 ["_law_script"] R_law := by
  have nd := sc_law.nd
  refine ok_def F sc_law (by intro ds d h; cases h; rfl) (fun f cdv A outer s H EX hr => ⟨_, (pss_cons (ps_for PassesOwn.never rfl (k_it K rfl (pe_op (k_add K) (pe_slice (k_sl K) (pv 0) po_none (po_some pe_int)) (pe_lst (pa_cons pe_int pa_nil)))) (pg_name (i := 1) nd rfl (Or.inl rfl)) (pss_cons (ps_set (i := 2) nd rfl (Or.inl rfl) (pe_callB (call_max2 rfl) (by rfl) T.b_max bt_max (pa_cons (pv 1) (pa_cons (pe_op op_sub (pe_un un_neg pe_int) (pv 1)) pa_nil))))
      (pss_cons (ps_set (i := 3) nd rfl (Or.inl rfl) (pe_op op_modN (pv 2) pe_int))
      (pss_cons (ps_setLc (i := 4) (own := [("_law_number", 11)]) rfl nd rfl rfl (sw_true rfl rfl rfl (by decide +kernel)) (k_it K rfl (k_call K c__law_digits hr (by decide) (by rfl) (pa_cons (pe_op op_fdivW (pv 2) pe_int) (pa_cons (pe_op op_uMul pe_int (pe_op op_pow pe_int pe_int)) (pa_cons (pv 3) pa_nil))))) (blkOk_by (N := ["_law_script", "_law_cell_here", "_law_left", "_law_many", "_law_row", "_law_most", "_law_handed", "_law_at", "_law_spoilt", "_law_size", "_law_others", "_law_number", "_law_thing"]) (sc := defScope s_law) (by decide +kernel)) (fun _ _ _ _ _ => (pg_name (i := 11) nd rfl (by first | exact Or.inl rfl | exact Or.inr rfl))) (fun _ _ _ _ _ => pts_nil) (fun _ _ _ _ _ => (k_call K c__law_sign hr (by decide) (by rfl) (pa_cons (pv 11) pa_nil))))
      (pss_cons (ps_set (i := 5) nd rfl (Or.inl rfl) (pe_op op_modN (k_call K c__law_stir hr (by decide) (by rfl) (pa_cons (pv 1) (pa_cons pe_int pa_nil))) pe_int))
      (pss_cons (ps_set (i := 6) nd rfl (Or.inl rfl) (pe_callTy (k_list K) (by rfl) T.b_list bt_list (pa_cons (pv 4) pa_nil)))
      (pss_cons (ps_if (PW.pt (pw_or (pt_not (pt_val (k_call K c__law_told hr (by decide) (by rfl) (pa_cons (k_call K c_is_row hr (by decide) (by rfl) (pa_cons (pv 6) (pa_cons (pv 5) pa_nil))) (pa_cons (pe_cmpR op_uLe (pv 3) (pv 5) (nomark _)) pa_nil))))) (pw_or1 (pt_cmpR (k_ne K rfl hr.units) (pv 6) (pv 4) (nomark _))))) (pss_one (ps_ret pe_bl)) pss_nil)
      (pss_cons (ps_if (PW.pt (pw_or (pt_not (pt_val (k_call K c__law_told hr (by decide) (by rfl) (pa_cons (k_call K c_is_row hr (by decide) (by rfl) (pa_cons (pv 6) (pa_cons (pv 3) pa_nil))) (pa_cons pe_bl pa_nil))))) (pw_or1 (PW.pt (pw_and (pt_cmpR op_uGt (pv 3) pe_int (nomark _)) (pw_and1 (pt_not (pt_val (k_call K c__law_told hr (by decide) (by rfl) (pa_cons (k_call K c_is_row hr (by decide) (by rfl) (pa_cons (pv 6) (pa_cons (pe_op op_sub (pv 3) pe_int) pa_nil))) (pa_cons pe_bl pa_nil))))))))))) (pss_one (ps_ret pe_bl)) pss_nil)
      (pss_cons (ps_set (i := 7) nd rfl (Or.inl rfl) (pe_op op_modN (k_call K c__law_stir hr (by decide) (by rfl) (pa_cons (pv 1) (pa_cons pe_int pa_nil))) (pe_op (k_add K) (pv 3) pe_int)))
      (pss_cons (ps_set (i := 8) nd rfl (Or.inl rfl) (pe_op (k_add K) (pe_op (k_add K) (pe_slice (k_sl K) (pv 4) po_none (po_some (pv 7))) (pe_lst (pa_cons (k_call K c__law_odd hr (by decide) (by rfl) (pa_cons (k_call K c__law_stir hr (by decide) (by rfl) (pa_cons (pv 1) (pa_cons pe_int pa_nil))) pa_nil)) pa_nil))) (pe_slice (k_sl K) (pv 4) (po_some (pe_op (k_add K) (pv 7) pe_int)) po_none)))
      (pss_one (ps_if (PW.pt (pw_or (pt_not (pt_val (k_call K c__law_told hr (by decide) (by rfl) (pa_cons (k_call K c_is_row hr (by decide) (by rfl) (pa_cons (pv 8) (pa_cons pe_int pa_nil))) (pa_cons pe_bl pa_nil))))) (pw_or1 (pt_not (pt_val (k_call K c__law_told hr (by decide) (by rfl) (pa_cons (k_call K c_is_row hr (by decide) (by rfl) (pa_cons (pe_callTy (k_tuple K) (by rfl) T.b_tuple bt_tuple (pa_cons (pv 4) pa_nil)) (pa_cons pe_int pa_nil))) (pa_cons pe_bl pa_nil)))))))) (pss_one (ps_ret pe_bl)) pss_nil))))))))))))
      (pss_cons (ps_set (i := 3) nd rfl (Or.inl rfl) (pe_op op_modN (k_call K c__law_cell hr (by decide) (by rfl) (pa_cons (pv 0) (pa_cons pe_int pa_nil))) pe_int))
      (pss_cons (ps_for PassesOwn.never rfl (k_it K rfl (pe_lst (pa_cons (pv 3) (pa_cons (pe_op (k_add K) (pv 3) pe_int) pa_nil)))) (pg_name (i := 9) nd rfl (Or.inl rfl)) (pss_one (ps_if (pt_not (pt_val (k_call K c__law_told hr (by decide) (by rfl) (pa_cons (k_call K c_is_row hr (by decide) (by rfl) (pa_cons (pe_op op_uMul (pe_lst (pa_cons pe_str pa_nil)) (pv 9)) (pa_cons (pv 3) pa_nil))) (pa_cons (pe_cmpR (k_eq K rfl hr.units) (pv 9) (pv 3) (nomark _)) pa_nil))))) (pss_one (ps_ret pe_bl)) pss_nil)))
      (pss_cons (ps_set (i := 10) nd rfl (Or.inl rfl) (pe_lst (pa_cons pe_non (pa_cons pe_int (pa_cons pe_bl (pa_cons pe_str (pa_cons pe_str (pa_cons pe_dnewK (pa_cons (pe_disp (pps_cons pe_str pe_str pps_nil) (by rfl) (by rfl) (fun z => by cases z) (by decide)) (pa_cons (pe_tup (pa_cons pe_str (pa_cons pe_str pa_nil))) (pa_cons (pe_tup pa_nil) pa_nil)))))))))))
      (pss_one (ps_ret (pe_and (pe_callB (k_all K rfl rfl) (by rfl) T.b_all bt_all (pa_cons (pe_lc (own := [("_law_thing", 12)]) rfl nd (k_it K rfl (pv 10)) (blkOk_by (N := ["_law_script", "_law_cell_here", "_law_left", "_law_many", "_law_row", "_law_most", "_law_handed", "_law_at", "_law_spoilt", "_law_size", "_law_others", "_law_number", "_law_thing"]) (sc := defScope s_law) (by decide +kernel)) (fun _ _ _ _ _ => (pg_name (i := 12) nd rfl (by first | exact Or.inl rfl | exact Or.inr rfl))) (fun _ _ _ _ _ => pts_nil) (fun _ _ _ _ _ => (k_call K c__law_told hr (by decide) (by rfl) (pa_cons (k_call K c_is_row hr (by decide) (by rfl) (pa_cons (pv 12) (pa_cons pe_int pa_nil))) (pa_cons pe_bl pa_nil))))) pa_nil)) (pe_one (k_call K c__law_told hr (by decide) (by rfl) (pa_cons (k_call K c_is_row hr (by decide) (by rfl) (pa_cons (pe_lst pa_nil) (pa_cons pe_int pa_nil))) (pa_cons pe_bl pa_nil))))))))))), fun I H' ds d hR => ?_⟩)
  cases hR with
  | mk ns h =>
    have eTold : ∀ (Γ : Sl) (ta tb : TE) (a b : Bool), G.E K Γ ta (.bl a) → G.E K Γ tb (.bl b) → a = b → G.T K Γ (tNot (tB (tCall (spR K R__law_told) [] E0 (tCons ta (tCons tb tNil))))) false := fun Γ ta tb a b ha hb e =>
      t_is (t_not (t_b (e_call0 (R := R__law_told) (ds := [.bl a, .bl b]) (ea_cons ha (ea_cons hb ea_nil)) (.mk a b)))) (by simp [e])
    have eRow : ∀ (Γ : Sl) (ta tb : TE) (xs : List D) (m : Int), G.E K Γ ta (.lst xs) → G.E K Γ tb (.int m) → xs.length ≤ 100000 → (∀ x ∈ xs, plain x = true ∧ fits x) → G.E K Γ (tCall (spR K R_is_row) [] E0 (tCons ta (tCons tb tNil))) (.bl (decide ((xs.length : Int) ≤ m) && xs.all sgnD)) := fun Γ ta tb xs m ha hb h1 h2 =>
      e_call0 (R := R_is_row) (ds := [.lst xs, .int m]) (ea_cons ha (ea_cons hb ea_nil)) (.mk (.lst xs) m rfl fun ds hds => by cases hds; exact ⟨h1, h2⟩)
    refine b_seq (b_look (xs := ns.take 62 ++ [7]) (em := D.int) (src_u_l (e_is (e_op (e_sl_l (e_var rfl) .fl eo_none (eo_some e_int)) (e_lst (ea_cons e_int ea_nil) (by decide)) (bin_add_lst ?_)) ?_) .lst) (fun _ => True) (some (.im (.fl (ns.map D.int))) :: List.replicate 12 none) trivial (.same (Le.refl _)) ?_ ?_)
    · simp only [cutD, List.length_take, List.length_drop, List.length_map, List.length_cons, List.length_nil, sizeLine_eq]; omega
    · simp only [cutD, sIxN, sIx0, List.drop_zero, Nat.sub_zero, sIxI (show (0 : Int) ≤ 62 by decide), List.length_map, List.map_append, List.map_cons, List.map_nil]
      congr 2
      rw [← List.map_take]
      congr 1
      by_cases h62 : 62 ≤ ns.length
      · rw [Nat.min_eq_left (by simpa using h62)]; rfl
      · rw [Nat.min_eq_right (by show ns.length ≤ 62; omega), List.take_of_length_le (Nat.le_refl _), List.take_of_length_le (by omega)]
    · intro i c _ _
      refine ⟨_, _, tgt_name, ?_⟩
      have hm := rwMany_b c
      have hlen := rwD_len c
      have hall := rwD_all c
      have hs1 := stir_lo c 20
      have hs2 := stir_lo c 21
      have hs3 := stir_lo c 22
      refine b_seq (b_set (d := .int (rwLeft c)) (e_cb (ea_cons (e_var rfl) (ea_cons (e_op (e_un e_int un_neg') (e_var rfl) bin_sub) ea_nil)) ca_max2) ?_)
      refine b_seq (b_set (d := .int (rwMany c)) (e_op (e_var rfl) e_int (bin_mod (by decide))) ?_)
      refine b_seq (b_set (d := .lst (rwD c)) (e_lcY (xs := digs (rwLeft c / 13) 148769467776 (rwMany c)) (em := D.int) (f := lawSign) (emb := D.str) (src_u_l (e_call0 (R := R__law_digits) (ds := [.int (rwLeft c / 13), .int 148769467776, .int (rwMany c)]) (ea_cons (e_op (e_var rfl) e_int (bin_div (by decide) (by decide))) (ea_cons (e_op e_int (e_op e_int e_int (bin_pow ⟨by decide, by decide, by decide⟩ (r := 24794911296) (by decide))) (bin_mul64 (by decide) (by decide))) (ea_cons (e_var rfl) ea_nil))) (.mk _ _ _ (by decide) (by omega))) .lst) ?_ ?_) ?_)
      · rw [digs_len _ _ _ (by decide)]; omega
      · intro j x hx
        have h0 := digs_mem _ _ _ (by decide) x (List.mem_of_getElem? hx)
        exact ⟨_, _, tgt_name, (by simp), e_call0 (R := R__law_sign) (ds := [.int x]) (ea_cons (e_var rfl) ea_nil) (.mk x h0.1)⟩
      refine b_seq (b_set (d := .int (stir c 20 % 15)) (e_op (e_call0 (R := R__law_stir) (ds := [.int c, .int 20]) (ea_cons (e_var rfl) (ea_cons e_int ea_nil)) (.mk c 20 (by decide))) e_int (bin_mod (by decide))) ?_)
      refine b_seq (b_set (d := .lst (rwD c)) (e_cb (ea_cons (e_var rfl) ea_nil) (ca_list .lst)) ?_)
      have hbound : (rwD c).length ≤ 100000 := by omega
      have hall2 : ∀ x ∈ rwD c, plain x = true ∧ fits x := fun x hx => ⟨(hall x hx).1, (hall x hx).2.1⟩
      refine b_seq (b_if (b := false) (t_is (t_or (a := false) (b := false) (eTold _ _ _ _ _ (eRow _ _ _ (rwD c) (stir c 20 % 15) (e_var rfl) (e_var rfl) hbound hall2) (e_op (e_var rfl) (e_var rfl) bin_le) ?_) (fun _ => t_is (t_test (e_op (e_var rfl) (e_var rfl) (bin_neG (rwD_ok c) (rwD_ok c) (rwD_dep c) (rwD_dep c)))) (by rw [rwD_eq]; rfl))) rfl) (fun h_ => by cases h_) (fun _ => ?_))
      · rw [rwD_sgn, Bool.and_true, hlen, decide_eq_decide]; omega
      refine b_next ?_
      refine b_seq (b_if (b := false) (t_is (t_or (a := false) (b := false) (eTold _ _ _ _ _ (eRow _ _ _ (rwD c) (rwMany c) (e_var rfl) (e_var rfl) hbound hall2) e_bl ?_) (fun _ => t_is (t_and (a := decide (0 < rwMany c)) (b := false) (t_test (e_op (e_var rfl) e_int bin_gt)) (fun hpos => eTold _ _ _ _ _ (eRow _ _ _ (rwD c) (rwMany c - 1) (e_var rfl) (e_op (e_var rfl) e_int bin_sub) hbound hall2) e_bl ?_)) (by simp))) rfl) (fun h_ => by cases h_) (fun _ => ?_))
      · rw [rwD_sgn, Bool.and_true, hlen, decide_eq_true_eq]; omega
      · simp only [decide_eq_true_eq] at hpos
        rw [rwD_sgn, Bool.and_true, hlen, decide_eq_false_iff_not]; omega
      refine b_next ?_
      refine b_seq (b_set (d := .int (stir c 21 % (rwMany c + 1))) (e_op (e_call0 (R := R__law_stir) (ds := [.int c, .int 21]) (ea_cons (e_var rfl) (ea_cons e_int ea_nil)) (.mk c 21 (by decide))) (e_op (e_var rfl) e_int bin_add_int) (bin_mod (by omega))) ?_)
      have l1 := cutD_len (rwD c) none (some (stir c 21 % (rwMany c + 1)))
      have l2 := cutD_len (rwD c) (some (stir c 21 % (rwMany c + 1) + 1)) none
      refine b_seq (b_set (d := .lst (cutD (rwD c) none (some (stir c 21 % (rwMany c + 1))) ++ [oddOf (stir c 22)] ++ cutD (rwD c) (some (stir c 21 % (rwMany c + 1) + 1)) none)) (e_op (e_op (e_sl_l (e_var rfl) .lst eo_none (eo_some (e_var rfl))) (e_lst (ea_cons (e_call0 (R := R__law_odd) (ds := [.int (stir c 22)]) (ea_cons (e_call0 (R := R__law_stir) (ds := [.int c, .int 22]) (ea_cons (e_var rfl) (ea_cons e_int ea_nil)) (.mk c 22 (by decide))) ea_nil) (.mk _)) ea_nil) (by rw [sizeLine_eq]; show 1 ≤ _; decide)) (bin_add_lst (by rw [sizeLine_eq]; show _ + 1 ≤ _; omega))) (e_sl_l (e_var rfl) .lst (eo_some (e_op (e_var rfl) e_int bin_add_int)) eo_none) (bin_add_lst (by rw [sizeLine_eq, List.length_append]; show _ + 1 + _ ≤ _; omega))) ?_)
      have hodd := odds_no _ (oddOf_mem (stir c 22))
      refine b_if (b := false) (t_is (t_or (a := false) (b := false) (eTold _ _ _ _ _ (eRow _ _ _ _ 14 (e_var rfl) e_int ?_ ?_) e_bl ?_) (fun _ => eTold _ _ _ (rowD (.tup (rwD c)) 14) false (e_call0 (R := R_is_row) (ds := [.tup (rwD c), .int 14]) (ea_cons (e_cb (ea_cons (e_var rfl) ea_nil) (ca_tuple .lst)) (ea_cons e_int ea_nil)) (.mk (.tup (rwD c)) 14 rfl fun ds hds => by cases hds)) e_bl rfl)) rfl) (fun h_ => by cases h_) (fun _ => ?_)
      · rw [List.length_append, List.length_append]; show _ + 1 + _ ≤ _; omega
      · intro x hx
        rw [List.mem_append, List.mem_append, List.mem_singleton] at hx
        rcases hx with (hx | rfl) | hx
        · exact hall2 x (cutD_mem hx)
        · exact ⟨hodd.1, hodd.2.1⟩
        · exact hall2 x (cutD_mem hx)
      · have : (cutD (rwD c) none (some (stir c 21 % (rwMany c + 1))) ++ [oddOf (stir c 22)] ++ cutD (rwD c) (some (stir c 21 % (rwMany c + 1) + 1)) none).all sgnD = false := by
          rw [List.all_append, List.all_append, List.all_cons, hodd.2.2]
          simp
        rw [this, Bool.and_false]
      · exact b_next ⟨trivial, by walk_at "le"⟩
    intro _
    refine b_seq (b_set (d := .int (ns.getD 0 0 % 4001)) (e_op (e_call0 (R := R__law_cell) (ds := [.fl (ns.map D.int), .int ((0 : Nat) : Int)]) (ea_cons (e_var rfl) (ea_cons e_int ea_nil)) (.mk ns 0 (by omega))) e_int (bin_mod (by decide))) ?_)
    have hv : 0 ≤ ns.getD 0 0 % 4001 ∧ ns.getD 0 0 % 4001 < 4001 := by omega
    generalize ns.getD 0 0 % 4001 = v at hv
    refine b_seq (b_look (xs := [v, v + 1]) (em := D.int) (src_u_l (e_lst (ds := [v, v + 1].map D.int) (ea_cons (e_var rfl) (ea_cons (e_op (e_var rfl) e_int bin_add_int) ea_nil)) (by rw [sizeLine_eq]; show 2 ≤ _; decide)) .lst) (fun _ => True) (some (.im (.fl (ns.map D.int))) :: none :: none :: some (.im (.int v)) :: List.replicate 9 none) trivial (by walk_at "le") ?_ ?_)
    · intro i z hz _
      have hz2 : 0 ≤ z ∧ z ≤ 4001 := by
        have := List.mem_of_getElem? hz
        simp only [List.mem_cons, List.not_mem_nil, or_false] at this
        omega
      have hrl : (List.replicate z.toNat [D.str (Str.ofString "+")]).flatten = List.replicate z.toNat (D.str (Str.ofString "+")) := by
        generalize z.toNat = n
        induction n with
        | zero => rfl
        | succ n ih => rw [List.replicate_succ, List.flatten_cons, ih]; rfl
      refine ⟨_, _, tgt_name, ?_⟩
      refine b_if (b := false) (eTold _ _ _ _ _ (eRow _ _ _ (List.replicate z.toNat (D.str (Str.ofString "+"))) v (e_is (e_op (e_lst (ea_cons e_str ea_nil) (by decide)) (e_var rfl) (bin_rep (by omega) (by omega) (by rw [sizeLine_eq]; show 1 * _ ≤ _; omega))) (by rw [hrl])) (e_var rfl) (by rw [List.length_replicate]; omega) ?_) (e_op (e_var rfl) (e_var rfl) bin_eq_int) ?_) (fun h_ => by cases h_) (fun _ => ?_)
      · intro x hx
        rw [List.mem_replicate] at hx
        rw [hx.2]
        exact ⟨rfl, by show _ ≤ _; decide +kernel⟩
      · have ha : (List.replicate z.toNat (D.str (Str.ofString "+"))).all sgnD = true := by
          rw [List.all_eq_true]
          intro x hx
          rw [List.mem_replicate] at hx
          rw [hx.2]; exact plus_sgn
        rw [ha, Bool.and_true, List.length_replicate, decide_eq_decide]
        have := List.mem_of_getElem? hz
        simp only [List.mem_cons, List.not_mem_nil, or_false] at this
        omega
      · exact b_next ⟨trivial, by walk_at "le"⟩
    intro _
    refine b_seq (b_set (d := .lst others) (e_lst (ea_cons e_non (ea_cons e_int (ea_cons e_bl (ea_cons e_str (ea_cons e_str (ea_cons e_dnew (ea_cons (e_disp (ep_str e_str e_str ep_nil) (by simp) (by simp)) (ea_cons (e_tup (ea_cons e_str (ea_cons e_str ea_nil)) (by decide)) (ea_cons (e_tup ea_nil (by decide)) ea_nil))))))))) (by decide)) ?_)
    refine b_ret_is (e_andV (a := (others.map fun d => decide (rowD d 4 = false)).all id) (b := true) (e_cb (ea_cons (e_lcY (xs := others) (em := id) (f := fun d => decide (rowD d 4 = false)) (emb := D.bl) (src_u_l (e_var rfl) (by rw [List.map_id]; exact .lst)) (by decide) ?_) ea_nil) (ca_all .lst)) (fun _ => ?_)) ?_ rfl
    · intro i d hd
      have ho := others_no d (List.mem_of_getElem? hd)
      exact ⟨_, _, tgt_name, (by simp), e_call0 (R := R__law_told) (ds := [.bl (rowD d 4), .bl false]) (ea_cons (e_call0 (R := R_is_row) (ds := [d, .int 4]) (ea_cons (e_var rfl) (ea_cons e_int ea_nil)) (.mk d 4 ho.1 fun ds hds => (no_ld ho.2.2 hds).elim)) (ea_cons e_bl ea_nil)) (.mk _ _)⟩
    · exact e_is (e_call0 (R := R__law_told) (ds := [.bl (rowD (.lst []) 0), .bl true]) (ea_cons (e_call0 (R := R_is_row) (ds := [.lst [], .int 0]) (ea_cons (e_lst ea_nil (by decide)) (ea_cons e_int ea_nil)) (.mk (.lst []) 0 rfl fun ds hds => by cases hds; exact ⟨by decide, by simp⟩)) (ea_cons e_bl ea_nil)) (.mk _ _)) rfl
    · have : (others.map fun d => decide (rowD d 4 = false)).all id = true := by
        rw [List.all_map, List.all_eq_true]
        intro d hd
        simp [(others_no d hd).2.1]
      rw [this]; rfl
theorem all_mk {l : PySem.W.OpenLaw} {w : World} {K : PySem.W.Frag} {h : Heap} {mg : Str → Option Value} {fa : Addr} (X : K.In h) (G : h.Ns mainGlobals mg) (hfa : mg "law" = some (.ref fa))
    {od0 an0 : Option Addr} {sl0 : Array (Option Value)} {oc0 kV0 dc0 pm0 cd0 ct0 : Value} {f0 : Addr}
    {od1 an1 : Option Addr} {sl1 : Array (Option Value)} {oc1 kV1 dc1 pm1 cd1 ct1 : Value} {f1 : Addr}
    {od2 an2 : Option Addr} {sl2 : Array (Option Value)} {oc2 kV2 dc2 pm2 cd2 ct2 : Value} {f2 : Addr}
    {od3 an3 : Option Addr} {sl3 : Array (Option Value)} {oc3 kV3 dc3 pm3 cd3 ct3 : Value} {f3 : Addr}
    {od4 an4 : Option Addr} {sl4 : Array (Option Value)} {oc4 kV4 dc4 pm4 cd4 ct4 : Value} {f4 : Addr}
    {od5 an5 : Option Addr} {sl5 : Array (Option Value)} {oc5 kV5 dc5 pm5 cd5 ct5 : Value} {f5 : Addr}
    {od6 an6 : Option Addr} {sl6 : Array (Option Value)} {oc6 kV6 dc6 pm6 cd6 ct6 : Value} {f6 : Addr}
    {od7 an7 : Option Addr} {sl7 : Array (Option Value)} {oc7 kV7 dc7 pm7 cd7 ct7 : Value} {f7 : Addr}
    {od8 an8 : Option Addr} {sl8 : Array (Option Value)} {oc8 kV8 dc8 pm8 cd8 ct8 : Value} {f8 : Addr}
    {od9 an9 : Option Addr} {sl9 : Array (Option Value)} {oc9 kV9 dc9 pm9 cd9 ct9 : Value} {f9 : Addr}
    {t_FIGURES : Tok}
    {t_LONGEST : Tok}
    {t_OTHERS : Tok}
    {t_SMALL : Tok}
    (a0 : PySem.W.nsIn K mainGlobals "is_made_of" = some (some (.ref f0))) (l0 : K.lookup f0 = some ⟨oc0, od0, .func (PySem.W.fnOf "is_made_of" "is_made_of" (defArgs s_is_made_of) (defBody s_is_made_of) (defScope s_is_made_of) .none kV0 dc0 pm0 an0 cd0 ct0), sl0⟩) (c0 : PySem.W.codeIn K cd0 "is_made_of" = true) (k0 : PySem.W.keepIn K (.ref f0) = true)
    (a1 : PySem.W.nsIn K mainGlobals "is_sign" = some (some (.ref f1))) (l1 : K.lookup f1 = some ⟨oc1, od1, .func (PySem.W.fnOf "is_sign" "is_sign" (defArgs s_is_sign) (defBody s_is_sign) (defScope s_is_sign) .none kV1 dc1 pm1 an1 cd1 ct1), sl1⟩) (c1 : PySem.W.codeIn K cd1 "is_sign" = true) (k1 : PySem.W.keepIn K (.ref f1) = true)
    (a2 : PySem.W.nsIn K mainGlobals "is_row" = some (some (.ref f2))) (l2 : K.lookup f2 = some ⟨oc2, od2, .func (PySem.W.fnOf "is_row" "is_row" (defArgs s_is_row) (defBody s_is_row) (defScope s_is_row) .none kV2 dc2 pm2 an2 cd2 ct2), sl2⟩) (c2 : PySem.W.codeIn K cd2 "is_row" = true) (k2 : PySem.W.keepIn K (.ref f2) = true)
    (a3 : PySem.W.nsIn K mainGlobals "_law_cell" = some (some (.ref f3))) (l3 : K.lookup f3 = some ⟨oc3, od3, .func (PySem.W.fnOf "_law_cell" "_law_cell" (defArgs s__law_cell) (defBody s__law_cell) (defScope s__law_cell) .none kV3 dc3 pm3 an3 cd3 ct3), sl3⟩) (c3 : PySem.W.codeIn K cd3 "_law_cell" = true) (k3 : PySem.W.keepIn K (.ref f3) = true)
    (a4 : PySem.W.nsIn K mainGlobals "_law_stir" = some (some (.ref f4))) (l4 : K.lookup f4 = some ⟨oc4, od4, .func (PySem.W.fnOf "_law_stir" "_law_stir" (defArgs s__law_stir) (defBody s__law_stir) (defScope s__law_stir) .none kV4 dc4 pm4 an4 cd4 ct4), sl4⟩) (c4 : PySem.W.codeIn K cd4 "_law_stir" = true) (k4 : PySem.W.keepIn K (.ref f4) = true)
    (a5 : PySem.W.nsIn K mainGlobals "_law_digits" = some (some (.ref f5))) (l5 : K.lookup f5 = some ⟨oc5, od5, .func (PySem.W.fnOf "_law_digits" "_law_digits" (defArgs s__law_digits) (defBody s__law_digits) (defScope s__law_digits) .none kV5 dc5 pm5 an5 cd5 ct5), sl5⟩) (c5 : PySem.W.codeIn K cd5 "_law_digits" = true) (k5 : PySem.W.keepIn K (.ref f5) = true)
    (a6 : PySem.W.nsIn K mainGlobals "_law_sign" = some (some (.ref f6))) (l6 : K.lookup f6 = some ⟨oc6, od6, .func (PySem.W.fnOf "_law_sign" "_law_sign" (defArgs s__law_sign) (defBody s__law_sign) (defScope s__law_sign) .none kV6 dc6 pm6 an6 cd6 ct6), sl6⟩) (c6 : PySem.W.codeIn K cd6 "_law_sign" = true) (k6 : PySem.W.keepIn K (.ref f6) = true)
    (a7 : PySem.W.nsIn K mainGlobals "_law_odd" = some (some (.ref f7))) (l7 : K.lookup f7 = some ⟨oc7, od7, .func (PySem.W.fnOf "_law_odd" "_law_odd" (defArgs s__law_odd) (defBody s__law_odd) (defScope s__law_odd) .none kV7 dc7 pm7 an7 cd7 ct7), sl7⟩) (c7 : PySem.W.codeIn K cd7 "_law_odd" = true) (k7 : PySem.W.keepIn K (.ref f7) = true)
    (a8 : PySem.W.nsIn K mainGlobals "_law_told" = some (some (.ref f8))) (l8 : K.lookup f8 = some ⟨oc8, od8, .func (PySem.W.fnOf "_law_told" "_law_told" (defArgs s__law_told) (defBody s__law_told) (defScope s__law_told) .none kV8 dc8 pm8 an8 cd8 ct8), sl8⟩) (c8 : PySem.W.codeIn K cd8 "_law_told" = true) (k8 : PySem.W.keepIn K (.ref f8) = true)
    (a9 : PySem.W.nsIn K mainGlobals "law" = some (some (.ref f9))) (l9 : K.lookup f9 = some ⟨oc9, od9, .func (PySem.W.fnOf "law" "law" (defArgs s_law) (defBody s_law) (defScope s_law) .none kV9 dc9 pm9 an9 cd9 ct9), sl9⟩) (c9 : PySem.W.codeIn K cd9 "law" = true) (k9 : PySem.W.keepIn K (.ref f9) = true)
    (zb_all : PySem.W.nsIn K mainGlobals "all" = some none)
    (zb_bool : PySem.W.nsIn K mainGlobals "bool" = some none)
    (zb_isinstance : PySem.W.nsIn K mainGlobals "isinstance" = some none)
    (zb_len : PySem.W.nsIn K mainGlobals "len" = some none)
    (zb_list : PySem.W.nsIn K mainGlobals "list" = some none)
    (zb_max : PySem.W.nsIn K mainGlobals "max" = some none)
    (zb_range : PySem.W.nsIn K mainGlobals "range" = some none)
    (zb_str : PySem.W.nsIn K mainGlobals "str" = some none)
    (zb_tuple : PySem.W.nsIn K mainGlobals "tuple" = some none)
    (zc_FIGURES : PySem.W.nsIn K mainGlobals "FIGURES" = some (some (.str (Str.ofString "0123456789") t_FIGURES)))
    (zc_LONGEST : PySem.W.nsIn K mainGlobals "LONGEST" = some (some (.int 6 t_LONGEST)))
    (zc_OTHERS : PySem.W.nsIn K mainGlobals "OTHERS" = some (some (.str (Str.ofString "+-*/()[]=<>,;.!?^&") t_OTHERS)))
    (zc_SMALL : PySem.W.nsIn K mainGlobals "SMALL" = some (some (.str (Str.ofString "abcdefghijklmnopqrstuvwxyz") t_SMALL))) :
    ∃ fd : FuncData, (∀ (s : Shared) (v : Value), BindsTo s fd ⟨[v], []⟩ [("_law_script", v)]) ∧ ∀ base : Heap, K.In base → base.Ns mainGlobals mg → FnOk l.prog w K mg base CX0 4 fa fd ["_law_script"] (spLaw K) := by
  have e := hfa.symm.trans (PySem.W.mg_of X G a9)
  cases e
  have T : Txt mg := ⟨PySem.W.mg_none_of X G zb_all, PySem.W.mg_none_of X G zb_bool, PySem.W.mg_none_of X G zb_isinstance, PySem.W.mg_none_of X G zb_len, PySem.W.mg_none_of X G zb_list, PySem.W.mg_none_of X G zb_max, PySem.W.mg_none_of X G zb_range, PySem.W.mg_none_of X G zb_str, PySem.W.mg_none_of X G zb_tuple, ⟨_, PySem.W.mg_of X G zc_FIGURES, ⟨_, rfl⟩⟩, ⟨_, PySem.W.mg_of X G zc_LONGEST, ⟨_, rfl⟩⟩, ⟨_, PySem.W.mg_of X G zc_OTHERS, ⟨_, rfl⟩⟩, ⟨_, PySem.W.mg_of X G zc_SMALL, ⟨_, rfl⟩⟩⟩
  have F0 := fun_mk (st := s_is_made_of) l0 c0 k0
  have D0 : DefAt K mg "is_made_of" "is_made_of" s_is_made_of ["text", "some"] := ⟨_, _, F0, PySem.W.mg_of X G a0, F0.binds (ps := ["text", "some"]) fun _ _ _ _ _ _ us hl => match us, hl with | [_, _], _ => rfl⟩
  have F1 := fun_mk (st := s_is_sign) l1 c1 k1
  have D1 : DefAt K mg "is_sign" "is_sign" s_is_sign ["thing"] := ⟨_, _, F1, PySem.W.mg_of X G a1, F1.binds (ps := ["thing"]) fun _ _ _ _ _ _ us hl => match us, hl with | [_], _ => rfl⟩
  have F2 := fun_mk (st := s_is_row) l2 c2 k2
  have D2 : DefAt K mg "is_row" "is_row" s_is_row ["thing", "most"] := ⟨_, _, F2, PySem.W.mg_of X G a2, F2.binds (ps := ["thing", "most"]) fun _ _ _ _ _ _ us hl => match us, hl with | [_, _], _ => rfl⟩
  have F3 := fun_mk (st := s__law_cell) l3 c3 k3
  have D3 : DefAt K mg "_law_cell" "_law_cell" s__law_cell ["_law_script", "_law_k"] := ⟨_, _, F3, PySem.W.mg_of X G a3, F3.binds (ps := ["_law_script", "_law_k"]) fun _ _ _ _ _ _ us hl => match us, hl with | [_, _], _ => rfl⟩
  have F4 := fun_mk (st := s__law_stir) l4 c4 k4
  have D4 : DefAt K mg "_law_stir" "_law_stir" s__law_stir ["_law_cell_here", "_law_k"] := ⟨_, _, F4, PySem.W.mg_of X G a4, F4.binds (ps := ["_law_cell_here", "_law_k"]) fun _ _ _ _ _ _ us hl => match us, hl with | [_, _], _ => rfl⟩
  have F5 := fun_mk (st := s__law_digits) l5 c5 k5
  have D5 : DefAt K mg "_law_digits" "_law_digits" s__law_digits ["_law_cell_here", "_law_base", "_law_count"] := ⟨_, _, F5, PySem.W.mg_of X G a5, F5.binds (ps := ["_law_cell_here", "_law_base", "_law_count"]) fun _ _ _ _ _ _ us hl => match us, hl with | [_, _, _], _ => rfl⟩
  have F6 := fun_mk (st := s__law_sign) l6 c6 k6
  have D6 : DefAt K mg "_law_sign" "_law_sign" s__law_sign ["_law_number"] := ⟨_, _, F6, PySem.W.mg_of X G a6, F6.binds (ps := ["_law_number"]) fun _ _ _ _ _ _ us hl => match us, hl with | [_], _ => rfl⟩
  have F7 := fun_mk (st := s__law_odd) l7 c7 k7
  have D7 : DefAt K mg "_law_odd" "_law_odd" s__law_odd ["_law_number"] := ⟨_, _, F7, PySem.W.mg_of X G a7, F7.binds (ps := ["_law_number"]) fun _ _ _ _ _ _ us hl => match us, hl with | [_], _ => rfl⟩
  have F8 := fun_mk (st := s__law_told) l8 c8 k8
  have D8 : DefAt K mg "_law_told" "_law_told" s__law_told ["_law_found", "_law_due"] := ⟨_, _, F8, PySem.W.mg_of X G a8, F8.binds (ps := ["_law_found", "_law_due"]) fun _ _ _ _ _ _ us hl => match us, hl with | [_, _], _ => rfl⟩
  have F9 := fun_mk (st := s_law) l9 c9 k9
  have D9 : DefAt K mg "law" "law" s_law ["_law_script"] := ⟨_, _, F9, PySem.W.mg_of X G a9, F9.binds (ps := ["_law_script"]) fun _ _ _ _ _ _ us hl => match us, hl with | [_], _ => rfl⟩
  refine ⟨PySem.W.fnOf "law" "law" (defArgs s_law) (defBody s_law) (defScope s_law) .none kV9 dc9 pm9 an9 cd9 ct9, fun s v => .of_eq rfl, fun base _ _ => ?_⟩
  have C_is_made_of := ok_is_made_of (P := l.prog) (w := w) (base := base) T D0
  have C_is_sign := ok_is_sign (P := l.prog) (w := w) (base := base) T D1 C_is_made_of
  have C_is_row := ok_is_row (P := l.prog) (w := w) (base := base) T D2 C_is_sign
  have C__law_cell := ok__law_cell (P := l.prog) (w := w) (base := base) T D3
  have C__law_stir := ok__law_stir (P := l.prog) (w := w) (base := base) T D4
  have C__law_digits := ok__law_digits (P := l.prog) (w := w) (base := base) T D5 C__law_stir
  have C__law_sign := ok__law_sign (P := l.prog) (w := w) (base := base) T D6 C__law_digits
  have C__law_odd := ok__law_odd (P := l.prog) (w := w) (base := base) T D7
  have C__law_told := ok__law_told (P := l.prog) (w := w) (base := base) T D8
  have C_law := ok_law (P := l.prog) (w := w) (base := base) T D9 C__law_cell C__law_told C__law_sign C__law_stir C_is_row C__law_digits C__law_odd
  exact law_fn C_law F9 hfa (fun ns h => .mk ns h)
end G
open PySem PySem.W PyProof.Rows
set_option maxRecDepth 100000 in
set_option maxHeartbeats 0 in
theorem PySem.Challenge.cw_rulestable_k02_rows_of_signs_holds : PySem.Challenge.rw_rulestable_k02_rows_of_signs.Holds := by
  w_on; o_law; k_head; (case hw => w_witness2)
  k_fill
  refine L2.walk_of (l := PySem.Challenge.rw_rulestable_k02_rows_of_signs) (n := 63) (k := 4) (x := "_law_script") (CX := fun _ => L2.CX0) (sp := fun w => G.spLaw _) rfl (by decide) rfl ⟨rfl, by decide, by decide⟩ (fun w h Y => PySem.W.kIn_of Y) ?F (fun _ _ a ns hl _ hS => ⟨a, ns, rfl, hS, hl, fun _ => rfl⟩) (fun _ _ _ _ _ h => h)
  case F =>
    intro w mg fa h KX GG hmg
    refine' G.all_mk KX GG hmg ?a0 ?l0 ?c0 ?k0 ?a1 ?l1 ?c1 ?k1 ?a2 ?l2 ?c2 ?k2 ?a3 ?l3 ?c3 ?k3 ?a4 ?l4 ?c4 ?k4 ?a5 ?l5 ?c5 ?k5 ?a6 ?l6 ?c6 ?k6 ?a7 ?l7 ?c7 ?k7 ?a8 ?l8 ?c8 ?k8 ?a9 ?l9 ?c9 ?k9 ?zb_all ?zb_bool ?zb_isinstance ?zb_len ?zb_list ?zb_max ?zb_range ?zb_str ?zb_tuple ?zc_FIGURES ?zc_LONGEST ?zc_OTHERS ?zc_SMALL
    (case a0 => k_is); (case l0 => k_is); (case c0 => k_is); (case k0 => k_is); (case a1 => k_is); (case l1 => k_is); (case c1 => k_is); (case k1 => k_is); (case a2 => k_is); (case l2 => k_is); (case c2 => k_is); (case k2 => k_is); (case a3 => k_is); (case l3 => k_is); (case c3 => k_is); (case k3 => k_is); (case a4 => k_is); (case l4 => k_is); (case c4 => k_is); (case k4 => k_is); (case a5 => k_is); (case l5 => k_is); (case c5 => k_is); (case k5 => k_is); (case a6 => k_is); (case l6 => k_is); (case c6 => k_is); (case k6 => k_is); (case a7 => k_is); (case l7 => k_is); (case c7 => k_is); (case k7 => k_is); (case a8 => k_is); (case l8 => k_is); (case c8 => k_is); (case k8 => k_is); (case a9 => k_is); (case l9 => k_is); (case c9 => k_is); (case k9 => k_is); (case zb_all => k_is); (case zb_bool => k_is); (case zb_isinstance => k_is); (case zb_len => k_is); (case zb_list => k_is); (case zb_max => k_is); (case zb_range => k_is); (case zb_str => k_is); (case zb_tuple => k_is); (case zc_FIGURES => k_is); (case zc_LONGEST => k_is); (case zc_OTHERS => k_is); (case zc_SMALL => k_is)
#print axioms PySem.Challenge.cw_rulestable_k02_rows_of_signs_holds

