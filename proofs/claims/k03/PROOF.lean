import PyProof.Rows.All
import Wide.All
import OpenK.AllK
import Wide.FinOn
import HandS.ForMost
import HandS.IsInst
import HandS.Wide
import HandS.Walk
import HandS.Exc
import HandS.ExcOwn
import HandS.ExcInit
import HandS.ExcField
import HandS.TryOnly
import HandS.TryMany
import HandS.WordsExc
import HandS.ExcIs
import PyProof.FactsAll.dict
import HandS.TupAny
import KE.LtData
import HandS.ClsMeth
import KE.KExcIs
import PySem.Challenge.RW_rulestable_k03_refusals
set_option Elab.async false
set_option linter.all false
set_option maxRecDepth 100000
set_option maxHeartbeats 4000000
namespace G
open PySem L2

/-! ### heaps that grow -/
def Ex (H H' : Hp) : Prop := ∀ a o, H a = some o → H' a = some o
theorem Ex.refl (H : Hp) : Ex H H := fun _ _ h => h
theorem Ex.trans {H H1 H2 : Hp} (a : Ex H H1) (b : Ex H1 H2) : Ex H H2 := fun x o h => b x o (a x o h)
theorem Ex.new {H : Hp} {p : Addr} {o : HO} (h : H p = none) : Ex H (upd H p o) := fun a u e => by
  rw [upd_ne (ne_of_none e h)]
  exact e
theorem Ex.free {H H' : Hp} {p : Addr} (e : Ex H H') (h : H' p = none) : H p = none := by
  cases h1 : H p with
  | none => rfl
  | some o => rw [e p o h1] at h; cases h
theorem ex_rd {H H' : Hp} {a : Addr} {u : HO} (e : Ex H H') (h : Rd H a u) : Rd H' a u := by
  rcases h with h | ⟨o, h⟩
  · exact Or.inl (e a _ h)
  · exact Or.inr ⟨o, e a _ h⟩
theorem ex_l {K : PySem.W.Frag} {H H' : Hp} {a : Addr} {xs : List V} (e : Ex H H') (h : SqL K H a xs) : SqL K H' a xs := by
  rcases h with h | h
  · exact Or.inl (ex_rd e h)
  · exact Or.inr h
theorem ex_t {K : PySem.W.Frag} {H H' : Hp} {a : Addr} {xs : List V} (e : Ex H H') (h : SqT K H a xs) : SqT K H' a xs := by
  rcases h with h | h
  · exact Or.inl (ex_rd e h)
  · exact Or.inr h

/-- I: the part of the heap H that never changes. From (I, H) to (I', H'): nothing but the objects at m has changed -/
structure Gr (m : List Addr) (I H I' H' : Hp) : Prop where
  i : Ex I I'
  ih : Ex I' H'
  h : ∀ a o, a ∉ m → H a = some o → H' a = some o
  th : ∀ a, H a ≠ none → H' a ≠ none
  fr : ∀ a, H a ≠ none → I' a = I a
theorem Gr.refl {m : List Addr} {I H : Hp} (e : Ex I H) : Gr m I H I H := ⟨Ex.refl I, e, fun _ _ _ h => h, fun _ h => h, fun _ _ => rfl⟩
theorem Gr.trans {m : List Addr} {I H I1 H1 I2 H2 : Hp} (a : Gr m I H I1 H1) (b : Gr m I1 H1 I2 H2) : Gr m I H I2 H2 :=
  ⟨a.i.trans b.i, b.ih, fun x o hx h => b.h x o hx (a.h x o hx h), fun x h => b.th x (a.th x h), fun x h => (b.fr x (a.th x h)).trans (a.fr x h)⟩
theorem Gr.weak {m : List Addr} {I H I1 H1 : Hp} (a : Gr [] I H I1 H1) : Gr m I H I1 H1 := ⟨a.i, a.ih, fun x o _ h => a.h x o (by simp) h, a.th, a.fr⟩
theorem Gr.ex {I H I1 H1 : Hp} (a : Gr [] I H I1 H1) : Ex H H1 := fun x o h => a.h x o (by simp) h
theorem Gr.new {m : List Addr} {I H : Hp} {p : Addr} {o : HO} (e : Ex I H) (h : H p = none) : Gr m I H (upd I p o) (upd H p o) where
  i := Ex.new (e.free h)
  ih := fun a u q => by
    by_cases z : a = p
    · subst z; rw [upd_same] at q ⊢; exact q
    · rw [upd_ne z] at q ⊢; exact e a u q
  h := fun a u _ q => Ex.new h a u q
  th := fun a q => by
    cases e1 : H a with
    | none => exact absurd e1 q
    | some u => rw [Ex.new h a u e1]; exact nofun
  fr := fun a q => by
    have z : a ≠ p := fun z => q (z ▸ h)
    rw [upd_ne z]
/-- a new object that is not among what stays -/
theorem Gr.junk {m : List Addr} {I H : Hp} {p : Addr} {o : HO} (e : Ex I H) (h : H p = none) : Gr m I H I (upd H p o) where
  i := Ex.refl I
  ih := e.trans (Ex.new h)
  h := fun a u _ q => Ex.new h a u q
  th := fun a q => by
    cases e1 : H a with
    | none => exact absurd e1 q
    | some u => rw [Ex.new h a u e1]; exact nofun
  fr := fun _ _ => rfl
theorem Gr.none_i {m : List Addr} {I H I1 H1 : Hp} (g : Gr m I H I1 H1) {a : Addr} (hi : I a = none) (hh : H a ≠ none) : I1 a = none := (g.fr a hh).trans hi

/-! ### data -/
inductive D where
  | non | bl (b : Bool) | int (i : Int) | str (s : Str) | lst (ds : List D) | tup (ds : List D)
  | dic (ks : List Key) (ds : List D) | obj (C : Addr) (ns : List Str) (ds : List D)
  | fl (ds : List D) | ty (n : String) | ref (a : Addr) | exn (C : Addr) (ns : List Str) (ds : List D)
mutual
inductive Rp (K : PySem.W.Frag) (I : Hp) : V → D → Prop
  | non : Rp K I .non .non
  | bl (b : Bool) : Rp K I (.bl b) (.bl b)
  | int (i : Int) : Rp K I (.int i) (.int i)
  | str (x : Str) : Rp K I (.str x) (.str x)
  | lst {a : Addr} {xs : List V} {ds : List D} : I a = some (.lst xs) → Rps K I xs ds → Rp K I (.ref a) (.lst ds)
  | fl {a : Addr} {xs : List V} {ds : List D} : SqL K I a xs → Rps K I xs ds → Rp K I (.ref a) (.fl ds)
  | ty (n : String) : Rp K I (.ty n) (.ty n)
  | ref (a : Addr) : Rp K I (.ref a) (.ref a)
  | tup {a : Addr} {xs : List V} {ds : List D} : SqT K I a xs → Rps K I xs ds → Rp K I (.ref a) (.tup ds)
  | dic {a : Addr} {ks : List Key} {xs : List V} {ds : List D} : I a = some (.dK (ks.zip xs)) → ks.length = xs.length → Rps K I xs ds → Rp K I (.ref a) (.dic ks ds)
  | obj {a C dx : Addr} {ns : List Str} {xs : List V} {ds : List D} : I a = some (.ins C dx (ns.zip xs)) → ns.length = xs.length → Rps K I xs ds → Rp K I (.ref a) (.obj C ns ds)
  | exn {a C dx : Addr} {ns : List Str} {xs : List V} {ds : List D} : I a = some (exo a C (some dx)) → I dx = some (exd dx (ns.zip xs)) → ns.length = xs.length → Rps K I xs ds → Rp K I (.ref a) (.exn C ns ds)
inductive Rps (K : PySem.W.Frag) (I : Hp) : List V → List D → Prop
  | nil : Rps K I [] []
  | cons {v : V} {vs : List V} {d : D} {ds : List D} : Rp K I v d → Rps K I vs ds → Rps K I (v :: vs) (d :: ds)
end
section
variable {K : PySem.W.Frag} {I I' : Hp}
mutual
theorem Rp.mono (e : Ex I I') : ∀ {v : V} {d : D}, Rp K I v d → Rp K I' v d
  | _, _, .non => .non
  | _, _, .bl b => .bl b
  | _, _, .int i => .int i
  | _, _, .str x => .str x
  | _, _, .lst h r => .lst (e _ _ h) (Rps.mono e r)
  | _, _, .fl h r => .fl (ex_l e h) (Rps.mono e r)
  | _, _, .ty n => .ty n
  | _, _, .ref a => .ref a
  | _, _, .tup h r => .tup (ex_t e h) (Rps.mono e r)
  | _, _, .dic h l r => .dic (e _ _ h) l (Rps.mono e r)
  | _, _, .obj h l r => .obj (e _ _ h) l (Rps.mono e r)
  | _, _, .exn h g l r => .exn (e _ _ h) (e _ _ g) l (Rps.mono e r)
theorem Rps.mono (e : Ex I I') : ∀ {vs : List V} {ds : List D}, Rps K I vs ds → Rps K I' vs ds
  | _, _, .nil => .nil
  | _, _, .cons h r => .cons (Rp.mono e h) (Rps.mono e r)
end
theorem Rps.length : ∀ {vs : List V} {ds : List D}, Rps K I vs ds → vs.length = ds.length
  | _, _, .nil => rfl
  | _, _, .cons _ r => congrArg (· + 1) (Rps.length r)
theorem Rps.append : ∀ {vs ws : List V} {ds es : List D}, Rps K I vs ds → Rps K I ws es → Rps K I (vs ++ ws) (ds ++ es)
  | _, _, _, _, .nil, s => s
  | _, _, _, _, .cons h r, s => .cons h (Rps.append r s)
theorem Rps.get : ∀ {vs : List V} {ds : List D} {i : Nat} {d : D}, Rps K I vs ds → ds[i]? = some d → ∃ v, vs[i]? = some v ∧ Rp K I v d
  | _, _, _, _, .nil, e => by simp at e
  | _, _, 0, _, .cons h _, e => by simp at e; subst e; exact ⟨_, rfl, h⟩
  | _, _, i + 1, _, .cons _ r, e => by
    obtain ⟨v, h1, h2⟩ := Rps.get (i := i) r (by simpa using e)
    exact ⟨v, by simpa using h1, h2⟩
theorem Rps.getV : ∀ {vs : List V} {ds : List D} {i : Nat} {v : V}, Rps K I vs ds → vs[i]? = some v → ∃ d, ds[i]? = some d ∧ Rp K I v d
  | _, _, _, _, .nil, e => by simp at e
  | _, _, 0, _, .cons h _, e => by simp at e; subst e; exact ⟨_, rfl, h⟩
  | _, _, i + 1, _, .cons _ r, e => by
    obtain ⟨v, h1, h2⟩ := Rps.getV (i := i) r (by simpa using e)
    exact ⟨v, by simpa using h1, h2⟩
theorem Rps.take : ∀ {vs : List V} {ds : List D} (n : Nat), Rps K I vs ds → Rps K I (vs.take n) (ds.take n)
  | _, _, 0, _ => .nil
  | _, _, _ + 1, .nil => .nil
  | _, _, n + 1, .cons h r => .cons h (Rps.take n r)
theorem Rps.drop : ∀ {vs : List V} {ds : List D} (n : Nat), Rps K I vs ds → Rps K I (vs.drop n) (ds.drop n)
  | _, _, 0, r => r
  | _, _, _ + 1, .nil => .nil
  | _, _, n + 1, .cons _ r => Rps.drop n r
theorem Rps.set {v : V} {d : D} (h : Rp K I v d) : ∀ {vs : List V} {ds : List D} (n : Nat), Rps K I vs ds → Rps K I (vs.set n v) (ds.set n d)
  | _, _, _, .nil => .nil
  | _, _, 0, .cons _ r => .cons h r
  | _, _, n + 1, .cons q r => .cons q (Rps.set h n r)
theorem Rps.one {v : V} {d : D} (h : Rp K I v d) : Rps K I [v] [d] := .cons h .nil
/-- flat data: what it is does not lean on the heap -/
def flat : D → Bool
  | .non => true
  | .bl _ => true
  | .int _ => true
  | .str _ => true
  | .ty _ => true
  | .ref _ => true
  | _ => false
theorem Rp.flat {v : V} {d : D} (h : Rp K I v d) (f : flat d = true) : Rp K I' v d := by
  cases h <;> first | exact .non | exact .bl _ | exact .int _ | exact .str _ | exact .ty _ | exact .ref _ | (cases f)
/-- a list's items -/
inductive LD : D → List D → Prop
  | lst {ds : List D} : LD (.lst ds) ds
  | fl {ds : List D} : LD (.fl ds) ds
theorem Rp.l {v : V} {d : D} {ds : List D} (r : Rp K I v d) (h : LD d ds) : ∃ a vs, v = .ref a ∧ SqL K I a vs ∧ Rps K I vs ds := by
  cases h with
  | lst => cases r with | lst a b => exact ⟨_, _, rfl, .inl (.inl a), b⟩
  | fl => cases r with | fl a b => exact ⟨_, _, rfl, a, b⟩
theorem rps_ints : ∀ {vs : List V} {ns : List Int}, Rps K I vs (ns.map D.int) → vs = ns.map V.int
  | _, [], .nil => rfl
  | _, n :: ns, .cons (.int _) r => congrArg (V.int n :: ·) (rps_ints r)
theorem rps_of_ints : ∀ {ns : List Int}, Rps K I (ns.map V.int) (ns.map D.int)
  | [] => .nil
  | n :: ns => .cons (.int n) rps_of_ints
theorem rps_strs : ∀ {vs : List V} {ns : List Str}, Rps K I vs (ns.map D.str) → vs = ns.map V.str
  | _, [], .nil => rfl
  | _, n :: ns, .cons (.str _) r => congrArg (V.str n :: ·) (rps_strs r)
theorem rps_bls : ∀ {vs : List V} {ns : List Bool}, Rps K I vs (ns.map D.bl) → vs = ns.map V.bl
  | _, [], .nil => rfl
  | _, n :: ns, .cons (.bl _) r => congrArg (V.bl n :: ·) (rps_bls r)
end

/-! ### the slots: nothing known, an immutable value, an object of the def's own that may change -/
inductive SV where
  | im (d : D) | mu (d : D)
abbrev Sl := List (Option SV)
inductive MRp (K : PySem.W.Frag) (I : Hp) : HO → D → Prop
  | lst {vs : List V} {ds : List D} (h : Rps K I vs ds) : MRp K I (.lst vs) (.lst ds)
  | dic {ks : List Key} {vs : List V} {ds : List D} (l : ks.length = vs.length) (h : Rps K I vs ds) : MRp K I (.dK (ks.zip vs)) (.dic ks ds)
  | ins {C dx : Addr} {ns : List Str} {vs : List V} {ds : List D} (l : ns.length = vs.length) (h : Rps K I vs ds) : MRp K I (.ins C dx (ns.zip vs)) (.obj C ns ds)
theorem MRp.mono {K : PySem.W.Frag} {I I' : Hp} (e : Ex I I') {o : HO} {d : D} (h : MRp K I o d) : MRp K I' o d := by
  cases h with
  | lst h => exact .lst (h.mono e)
  | dic l h => exact .dic l (h.mono e)
  | ins l h => exact .ins l (h.mono e)
/-- what the slots hold -/
def SlOk (K : PySem.W.Frag) (I : Hp) (σ : St) (H : Hp) (as : Nat → Addr) (i : Nat) : SV → Prop
  | .im d => ∃ v, σ[i]? = some (some v) ∧ Rp K I v d
  | .mu d => σ[i]? = some (some (.ref (as i))) ∧ I (as i) = none ∧ ∃ o, H (as i) = some o ∧ MRp K I o d
structure Lo (K : PySem.W.Frag) (I : Hp) (σ : St) (H : Hp) (as : Nat → Addr) (Γ : Sl) : Prop where
  at_ : ∀ i s, Γ[i]? = some (some s) → SlOk K I σ H as i s
  ne : ∀ i j d e, Γ[i]? = some (some (.mu d)) → Γ[j]? = some (some (.mu e)) → i ≠ j → as i ≠ as j
  len : σ.length = Γ.length
section
variable {K : PySem.W.Frag} {I I' H H' : Hp} {σ : St} {as : Nat → Addr} {Γ : Sl}
theorem SlOk.mono (g : Gr [] I H I' H') {i : Nat} : ∀ {s : SV}, SlOk K I σ H as i s → SlOk K I' σ H' as i s
  | .im _, ⟨v, h, r⟩ => ⟨v, h, r.mono g.i⟩
  | .mu _, ⟨h, n, o, ho, r⟩ => ⟨h, g.none_i n (by rw [ho]; exact nofun), o, g.ex _ _ ho, r.mono g.i⟩
theorem Lo.mono (g : Gr [] I H I' H') (l : Lo K I σ H as Γ) : Lo K I' σ H' as Γ := ⟨fun i s h => (l.at_ i s h).mono g, l.ne, l.len⟩
end

/-! ### judgements over readings -/
section
variable (K : PySem.W.Frag)
/-- te gives (a value of) d -/
def E (Γ : Sl) (te : TE) (d : D) : Prop := ∀ (I : Hp) (σ : St) (H : Hp) (as : Nat → Addr), Ex I H → Lo K I σ H as Γ → ∀ Q : VK, (∀ I' H' v, Gr [] I H I' H' → Rp K I' v d → Q v H') → te σ H Q
/-- te gives a list of ds; the list itself may be one that changes -/
def C (Γ : Sl) (te : TE) (ds : List D) : Prop := ∀ (I : Hp) (σ : St) (H : Hp) (as : Nat → Addr), Ex I H → Lo K I σ H as Γ → ∀ Q : VK, (∀ I' H' a vs, Gr [] I H I' H' → SqL K H' a vs → Rps K I' vs ds → Q (.ref a) H') → te σ H Q
def EA (Γ : Sl) (ta : TA) (ds : List D) : Prop := ∀ (I : Hp) (σ : St) (H : Hp) (as : Nat → Addr), Ex I H → Lo K I σ H as Γ → ∀ Q : List V → Hp → Prop, (∀ I' H' vs, Gr [] I H I' H' → Rps K I' vs ds → Q vs H') → ta σ H Q
def T (Γ : Sl) (tt : TT) (b : Bool) : Prop := ∀ (I : Hp) (σ : St) (H : Hp) (as : Nat → Addr), Ex I H → Lo K I σ H as Γ → ∀ Q : Bool → Hp → Prop, (∀ I' H', Gr [] I H I' H' → Q b H') → tt σ H Q
def EO (Γ : Sl) (to : TO) (o : Option Int) : Prop := ∀ (I : Hp) (σ : St) (H : Hp) (as : Nat → Addr), Ex I H → Lo K I σ H as Γ → ∀ Q : Option Int → Hp → Prop, (∀ I' H', Gr [] I H I' H' → Q o H') → to σ H Q
/-- an operation on values -/
def Bin (r : R2) (x y d : D) : Prop := ∀ (I H : Hp) (u v : V), Ex I H → Rp K I u x → Rp K I v y → ∀ Q : VK, (∀ I' H' v, Gr [] I H I' H' → Rp K I' v d → Q v H') → r u v H Q
def Un1 (r : V → Hp → VK → Prop) (x d : D) : Prop := ∀ (I H : Hp) (u : V), Ex I H → Rp K I u x → ∀ Q : VK, (∀ I' H' v, Gr [] I H I' H' → Rp K I' v d → Q v H') → r u H Q
def Ca (r : List V → Hp → VK → Prop) (xs : List D) (d : D) : Prop := ∀ (I H : Hp) (us : List V), Ex I H → Rps K I us xs → ∀ Q : VK, (∀ I' H' v, Gr [] I H I' H' → Rp K I' v d → Q v H') → r us H Q
end
section
variable {K : PySem.W.Frag} {Γ : Sl} {te ta tb : TE} {d x y : D} {ds : List D}
theorem E.c (h : E K Γ te d) (hl : LD d ds) : C K Γ te ds := fun I σ H as e l Q q => h I σ H as e l Q fun I' H' v g r => by
  obtain ⟨a, vs, rfl, hs, hr⟩ := r.l hl
  exact q I' H' _ _ g (ex_l g.ih hs) hr
theorem e_var {i : Nat} (h : Γ[i]? = some (some (.im d))) : E K Γ (tVar i) d := fun I σ H as e l Q q => by
  obtain ⟨v, hv, r⟩ := l.at_ i _ h
  exact ⟨v, hv, q I H v (Gr.refl e) r⟩
theorem c_var {i : Nat} (h : Γ[i]? = some (some (.mu (.lst ds)))) : C K Γ (tVar i) ds := fun I σ H as e l Q q => by
  obtain ⟨hv, hn, o, ho, r⟩ := l.at_ i _ h
  cases r with
  | lst r => exact ⟨_, hv, q I H _ _ (Gr.refl e) (.inl (.inl ho)) r⟩
theorem e_int {i : Int} : E K Γ (tC (.int i)) (.int i) := fun I σ H as e _ Q q => q I H _ (Gr.refl e) (.int i)
theorem e_str {i : Str} : E K Γ (tC (.str i)) (.str i) := fun I σ H as e _ Q q => q I H _ (Gr.refl e) (.str i)
theorem e_bl {i : Bool} : E K Γ (tC (.bl i)) (.bl i) := fun I σ H as e _ Q q => q I H _ (Gr.refl e) (.bl i)
theorem e_non : E K Γ (tC .non) .non := fun I σ H as e _ Q q => q I H _ (Gr.refl e) .non
theorem e_op {r : R2} (ha : E K Γ ta x) (hb : E K Γ tb y) (hr : Bin K r x y d) : E K Γ (tOp r ta tb) d := fun I σ H as e l Q q =>
  ha I σ H as e l _ fun I1 H1 v g1 r1 => hb I1 σ H1 as g1.ih (l.mono g1) _ fun I2 H2 w g2 r2 => hr I2 H2 v w g2.ih (r1.mono g2.i) r2 Q fun I3 H3 z g3 r3 => q I3 H3 z ((g1.trans g2).trans g3) r3
theorem e_un {r : V → Hp → VK → Prop} (ha : E K Γ ta x) (hr : Un1 K r x d) : E K Γ (tUn r ta) d := fun I σ H as e l Q q =>
  ha I σ H as e l _ fun I1 H1 v g1 r1 => hr I1 H1 v g1.ih r1 Q fun I3 H3 z g3 r3 => q I3 H3 z (g1.trans g3) r3
theorem ea_nil : EA K Γ tNil [] := fun I σ H as e _ Q q => q I H _ (Gr.refl e) .nil
theorem ea_cons {tr : TA} (ha : E K Γ ta x) (hr : EA K Γ tr ds) : EA K Γ (tCons ta tr) (x :: ds) := fun I σ H as e l Q q =>
  ha I σ H as e l _ fun I1 H1 v g1 r1 => hr I1 σ H1 as g1.ih (l.mono g1) _ fun I2 H2 vs g2 r2 => q I2 H2 _ (g1.trans g2) (.cons (r1.mono g2.i) r2)
theorem e_cb {r : List V → Hp → VK → Prop} {ta : TA} (ha : EA K Γ ta ds) (hr : Ca K r ds d) : E K Γ (tCB r ta) d := fun I σ H as e l Q q =>
  ha I σ H as e l _ fun I1 H1 v g1 r1 => hr I1 H1 v g1.ih r1 Q fun I3 H3 z g3 r3 => q I3 H3 z (g1.trans g3) r3
theorem e_tup {ta : TA} (ha : EA K Γ ta ds) (hl : ds.length ≤ sizeLine) : E K Γ (tTup ta) (.tup ds) := fun I σ H as e l Q q =>
  ha I σ H as e l _ fun I1 H1 vs g1 r1 => ⟨by rw [r1.length]; exact hl, fun p hp => q _ _ _ (g1.trans (Gr.new g1.ih hp)) (.tup (.inl (.inl upd_same)) (r1.mono (Ex.new (g1.ih.free hp))))⟩
theorem e_lst {ta : TA} (ha : EA K Γ ta ds) (hl : ds.length ≤ sizeLine) : E K Γ (tLst ta) (.lst ds) := fun I σ H as e l Q q =>
  ha I σ H as e l _ fun I1 H1 vs g1 r1 => ⟨by rw [r1.length]; exact hl, fun p hp => q _ _ _ (g1.trans (Gr.new g1.ih hp)) (.lst upd_same (r1.mono (Ex.new (g1.ih.free hp))))⟩
theorem e_if {t : TT} {b : Bool} (h : T K Γ t b) (h1 : b = true → E K Γ ta d) (h2 : b = false → E K Γ tb d) : E K Γ (tIf t ta tb) d := fun I σ H as e l Q q =>
  h I σ H as e l _ fun I1 H1 g1 => by
    cases b with
    | true => exact h1 rfl I1 σ H1 as g1.ih (l.mono g1) Q fun I2 H2 v g2 r2 => q I2 H2 v (g1.trans g2) r2
    | false => exact h2 rfl I1 σ H1 as g1.ih (l.mono g1) Q fun I2 H2 v g2 r2 => q I2 H2 v (g1.trans g2) r2
/-! ### tests -/
theorem t_test {b : Bool} (h : E K Γ te (.bl b)) : T K Γ (tTest te) b := fun I σ H as e l Q q => h I σ H as e l _ fun I1 H1 v g1 r1 => by
  cases r1
  exact ⟨b, rfl, q I1 H1 g1⟩
theorem t_b {b : Bool} (h : E K Γ te (.bl b)) : T K Γ (tB te) b := fun I σ H as e l Q q => h I σ H as e l _ fun I1 H1 v g1 r1 => by
  cases r1
  exact ⟨b, rfl, q I1 H1 g1⟩
theorem t_not {t : TT} {b : Bool} (h : T K Γ t b) : T K Γ (tNot t) (!b) := fun I σ H as e l Q q => h I σ H as e l _ fun I1 H1 g1 => q I1 H1 g1
theorem t_and {t u : TT} {a b : Bool} (h1 : T K Γ t a) (h2 : a = true → T K Γ u b) : T K Γ (tAnd t u) (a && b) := fun I σ H as e l Q q => h1 I σ H as e l _ fun I1 H1 g1 => by
  cases a with
  | true => exact h2 rfl I1 σ H1 as g1.ih (l.mono g1) Q fun I2 H2 g2 => q I2 H2 (g1.trans g2)
  | false => exact q I1 H1 g1
theorem t_or {t u : TT} {a b : Bool} (h1 : T K Γ t a) (h2 : a = false → T K Γ u b) : T K Γ (tOr t u) (a || b) := fun I σ H as e l Q q => h1 I σ H as e l _ fun I1 H1 g1 => by
  cases a with
  | true => exact q I1 H1 g1
  | false => exact h2 rfl I1 σ H1 as g1.ih (l.mono g1) Q fun I2 H2 g2 => q I2 H2 (g1.trans g2)
theorem t_yes : T K Γ tYes true := fun I σ H as e l Q q => q I H (Gr.refl e)
theorem e_andV {a b : Bool} (h1 : E K Γ ta (.bl a)) (h2 : a = true → E K Γ tb (.bl b)) : E K Γ (tAndV ta tb) (.bl (a && b)) := fun I σ H as e l Q q => h1 I σ H as e l _ fun I1 H1 v g1 r1 => by
  cases r1
  refine ⟨a, rfl, ?_⟩
  cases a with
  | true => exact h2 rfl I1 σ H1 as g1.ih (l.mono g1) Q fun I2 H2 w g2 r2 => q I2 H2 w (g1.trans g2) r2
  | false => exact q I1 H1 _ g1 (.bl false)
theorem e_orV {a b : Bool} (h1 : E K Γ ta (.bl a)) (h2 : a = false → E K Γ tb (.bl b)) : E K Γ (tOrV ta tb) (.bl (a || b)) := fun I σ H as e l Q q => h1 I σ H as e l _ fun I1 H1 v g1 r1 => by
  cases r1
  refine ⟨a, rfl, ?_⟩
  cases a with
  | true => exact q I1 H1 _ g1 (.bl true)
  | false => exact h2 rfl I1 σ H1 as g1.ih (l.mono g1) Q fun I2 H2 w g2 r2 => q I2 H2 w (g1.trans g2) r2
theorem e_notV {a : Bool} (h1 : E K Γ ta (.bl a)) : E K Γ (tNotV ta) (.bl (!a)) := fun I σ H as e l Q q => h1 I σ H as e l _ fun I1 H1 v g1 r1 => by
  cases r1
  exact ⟨a, rfl, q I1 H1 _ g1 (.bl _)⟩
theorem e_is (h : E K Γ te x) (e : x = y) : E K Γ te y := e ▸ h
theorem t_is {t : TT} {a b : Bool} (h : T K Γ t a) (e : a = b) : T K Γ t b := e ▸ h
end

/-! ### statements -/
structure Cz where
  K : PySem.W.Frag
  I : Hp
  H : Hp
  m : List (Nat × Addr)
  W : WX
/-- where a body stands: I, H now; c.I, c.H at its entry -/
structure At (c : Cz) (I : Hp) (σ : St) (H : Hp) (as : Nat → Addr) (Γ : Sl) : Prop where
  gr : Gr (c.m.map (·.2)) c.I c.H I H
  lo : Lo c.K I σ H as Γ
  ok : ∀ i d, Γ[i]? = some (some (.mu d)) → c.H (as i) = none ∨ (i, as i) ∈ c.m
  fix : ∀ p ∈ c.m, as p.1 = p.2
structure Ks where
  nx : Sl → Prop
  rt : D → Sl → Prop
  bk : Sl → Prop := fun _ => False
  ct : Sl → Prop := fun _ => False
  /-- what may be raised: the slots, the class, the fields' names and data -/
  ex : Sl → Addr → List Str → List D → Prop := fun _ _ _ _ => False
/-- an exception's dict: new, of these fields -/
structure XdAt (K : PySem.W.Frag) (I H H0 : Hp) (dx : Addr) (ns : List Str) (ds : List D) : Prop where
  at_ : ∃ vs, H dx = some (.xd (ns.zip vs)) ∧ ns.length = vs.length ∧ Rps K I vs ds
  ni : I dx = none
  n0 : H0 dx = none
structure EndsOk (c : Cz) (lb : Hp) (κ : Ks) (De : Ends) : Prop where
  nx : ∀ I σ H as Γ, κ.nx Γ → Ex lb I → At c I σ H as Γ → De.nx σ H
  rt : ∀ I H Γ v d, κ.rt d Γ → Ex lb I → Gr (c.m.map (·.2)) c.I c.H I H → Rp c.K I v d → (∀ p ∈ c.m, ∀ e, Γ[p.1]? = some (some (.mu e)) → ∃ o, H p.2 = some o ∧ MRp c.K I o e) → De.rt v H
  bk : ∀ I σ H as Γ, κ.bk Γ → Ex lb I → At c I σ H as Γ → De.bk σ H
  ct : ∀ I σ H as Γ, κ.ct Γ → Ex lb I → At c I σ H as Γ → De.ct σ H
  ex : ∀ I σ H as Γ C ns ds dx, κ.ex Γ C ns ds → Ex lb I → At c I σ H as Γ → XdAt c.K I H c.H dx ns ds → c.W (.ref C) (some dx) σ H
def B (c : Cz) (Γ : Sl) (ts : TS) (κ : Ks) : Prop := ∀ (lb I : Hp) (σ : St) (H : Hp) (as : Nat → Addr) (De : Ends), Ex lb I → At c I σ H as Γ → EndsOk c lb κ De → ts De σ H
/-- Γ' says less than Γ -/
inductive Le : Sl → Sl → Prop
  | nil : Le [] []
  | none {a : Option SV} {r s : Sl} : Le r s → Le (none :: r) (a :: s)
  | same {a : Option SV} {r s : Sl} : Le r s → Le (a :: r) (a :: s)
theorem Le.refl : ∀ Γ : Sl, Le Γ Γ
  | [] => .nil
  | _ :: r => .same (Le.refl r)
theorem Le.get : ∀ {Γ' Γ : Sl}, Le Γ' Γ → ∀ {i : Nat} {s : SV}, Γ'[i]? = some (some s) → Γ[i]? = some (some s)
  | _, _, .nil, _, _, h => h
  | _, _, .none _, 0, _, h => by simp at h
  | _, _, .none l, i + 1, _, h => by simpa using Le.get l (by simpa using h)
  | _, _, .same _, 0, _, h => h
  | _, _, .same l, i + 1, _, h => by simpa using Le.get l (by simpa using h)
theorem Le.length : ∀ {Γ' Γ : Sl}, Le Γ' Γ → Γ'.length = Γ.length
  | _, _, .nil => rfl
  | _, _, .none l => congrArg (· + 1) l.length
  | _, _, .same l => congrArg (· + 1) l.length
theorem set_get {Γ : Sl} {i j : Nat} {a : Option SV} {s : SV} (h : (Γ.set i a)[j]? = some (some s)) : (j = i ∧ a = some s) ∨ (j ≠ i ∧ Γ[j]? = some (some s)) := by
  by_cases e : j = i
  · subst e
    rw [List.getElem?_set_self'] at h
    left
    cases g : Γ[j]? with
    | none => rw [g] at h; simp at h
    | some b => rw [g] at h; simp at h; exact ⟨rfl, h⟩
  · rw [List.getElem?_set_ne (Ne.symm e)] at h
    exact .inr ⟨e, h⟩
section
variable {K : PySem.W.Frag} {I I' H H' : Hp} {σ : St} {as : Nat → Addr} {Γ Γ' : Sl}
theorem Lo.weak (l : Le Γ' Γ) (h : Lo K I σ H as Γ) : Lo K I σ H as Γ' := ⟨fun i s e => h.at_ i s (l.get e), fun i j d e a b => h.ne i j d e (l.get a) (l.get b), h.len.trans l.length.symm⟩
theorem Lo.lt (h : Lo K I σ H as Γ) {i : Nat} {s : Option SV} {σ' : St} (e : (Γ.set i (some a))[i]? = some s) : i < σ.length := by
  have := (List.getElem?_eq_some_iff.mp e).1
  rw [List.length_set] at this
  rw [h.len]; exact this
theorem Lo.set (h : Lo K I σ H as Γ) {i : Nat} {v : V} {d : D} (r : Rp K I v d) : Lo K I (σ.set i (some v)) H as (Γ.set i (some (.im d))) := by
  refine ⟨fun j s e => ?_, fun j k d e a b => ?_, by simp [h.len]⟩
  · have hj := (List.getElem?_eq_some_iff.mp e).1
    rw [List.length_set, ← h.len] at hj
    rcases set_get e with ⟨rfl, e'⟩ | ⟨ne, e'⟩
    · cases e'
      exact ⟨v, by rw [List.getElem?_set_self hj], r⟩
    · have q := h.at_ j s e'
      cases s with
      | im d => obtain ⟨w, e1, r1⟩ := q; exact ⟨w, by rw [List.getElem?_set_ne (Ne.symm ne)]; exact e1, r1⟩
      | mu d => obtain ⟨e1, r1⟩ := q; exact ⟨by rw [List.getElem?_set_ne (Ne.symm ne)]; exact e1, r1⟩
  · rcases set_get a with ⟨_, e'⟩ | ⟨_, a'⟩
    · cases e'
    · rcases set_get b with ⟨_, e'⟩ | ⟨_, b'⟩
      · cases e'
      · exact h.ne j k d e a' b'
def updA (as : Nat → Addr) (i : Nat) (p : Addr) : Nat → Addr := fun j => if j = i then p else as j
theorem updA_same {as : Nat → Addr} {i : Nat} {p : Addr} : updA as i p i = p := if_pos rfl
theorem updA_ne {as : Nat → Addr} {i j : Nat} {p : Addr} (h : j ≠ i) : updA as i p j = as j := if_neg h
/-- slot i holds a new object -/
theorem Lo.setNew (h : Lo K I σ H as Γ) {i : Nat} {p : Addr} {o : HO} {d : D} (e : Ex I H) (hp : H p = none) (r : MRp K I o d) : Lo K I (σ.set i (some (.ref p))) (upd H p o) (updA as i p) (Γ.set i (some (.mu d))) := by
  have hb : ∀ j e, Γ[j]? = some (some (.mu e)) → as j ≠ p := fun j e q z => by
    obtain ⟨_, _, o, ho, _⟩ := h.at_ j _ q
    rw [z, hp] at ho; cases ho
  refine ⟨fun j s e1 => ?_, fun j k d1 e1 a b ne => ?_, by simp [h.len]⟩
  · have hj := (List.getElem?_eq_some_iff.mp e1).1
    rw [List.length_set, ← h.len] at hj
    rcases set_get e1 with ⟨rfl, e'⟩ | ⟨ne, e'⟩
    · cases e'
      exact ⟨by rw [List.getElem?_set_self hj, updA_same], by rw [updA_same]; exact e.free hp, o, by rw [updA_same]; exact upd_same, r⟩
    · have q := h.at_ j s e'
      cases s with
      | im d => obtain ⟨w, e1, r1⟩ := q; exact ⟨w, by rw [List.getElem?_set_ne (Ne.symm ne)]; exact e1, r1⟩
      | mu d =>
        obtain ⟨e1, n1, o1, r1, r2⟩ := q
        exact ⟨by rw [List.getElem?_set_ne (Ne.symm ne), updA_ne ne]; exact e1, by rw [updA_ne ne]; exact n1, o1, by rw [updA_ne ne, upd_ne (hb j d e')]; exact r1, r2⟩
  · rcases set_get a with ⟨rfl, a'⟩ | ⟨na, a'⟩
    · rcases set_get b with ⟨rfl, b'⟩ | ⟨nb, b'⟩
      · exact absurd rfl ne
      · rw [updA_same, updA_ne nb]; exact (hb k _ b').symm
    · rcases set_get b with ⟨rfl, b'⟩ | ⟨nb, b'⟩
      · rw [updA_same, updA_ne na]; exact hb j _ a'
      · rw [updA_ne na, updA_ne nb]; exact h.ne j k _ _ a' b' ne
/-- the object of slot i changes -/
theorem Lo.put (h : Lo K I σ H as Γ) {i : Nat} {o : HO} {d0 d : D} (hi : Γ[i]? = some (some (.mu d0))) (r : MRp K I o d) : Lo K I σ (upd H (as i) o) as (Γ.set i (some (.mu d))) := by
  refine ⟨fun j s e1 => ?_, fun j k d1 e1 a b ne => ?_, by simp [h.len]⟩
  · rcases set_get e1 with ⟨rfl, e'⟩ | ⟨ne, e'⟩
    · cases e'
      obtain ⟨e1, n1, o1, r1, r2⟩ := h.at_ j _ hi
      exact ⟨e1, n1, o, upd_same, r⟩
    · have q := h.at_ j s e'
      cases s with
      | im d => exact q
      | mu d =>
        obtain ⟨e1, n1, o1, r1, r2⟩ := q
        exact ⟨e1, n1, o1, by rw [upd_ne (h.ne j i _ _ e' hi ne)]; exact r1, r2⟩
  · rcases set_get a with ⟨rfl, a'⟩ | ⟨na, a'⟩
    · rcases set_get b with ⟨rfl, b'⟩ | ⟨nb, b'⟩
      · exact absurd rfl ne
      · exact h.ne _ _ _ _ hi b' ne
    · rcases set_get b with ⟨rfl, b'⟩ | ⟨nb, b'⟩
      · exact h.ne _ _ _ _ a' hi ne
      · exact h.ne _ _ _ _ a' b' ne
theorem MRp.rp {o : HO} {d : D} {a : Addr} (r : MRp K I o d) (h : I a = some o) : Rp K I (.ref a) d := by
  cases r with
  | lst r => exact .lst h r
  | dic l r => exact .dic h l r
  | ins l r => exact .obj h l r
/-- the object of slot i changes no more -/
theorem Lo.freeze (h : Lo K I σ H as Γ) {i : Nat} {o : HO} {d : D} (hi : Γ[i]? = some (some (.mu d))) (ho : H (as i) = some o) (r : MRp K I o d) : Lo K (upd I (as i) o) σ H as (Γ.set i (some (.im d))) := by
  obtain ⟨e0, n0, _, _, _⟩ := h.at_ i _ hi
  have ei : Ex I (upd I (as i) o) := Ex.new n0
  refine ⟨fun j s e1 => ?_, fun j k d1 e1 a b ne => ?_, by simp [h.len]⟩
  · rcases set_get e1 with ⟨rfl, e'⟩ | ⟨ne, e'⟩
    · cases e'
      exact ⟨_, e0, (r.mono ei).rp upd_same⟩
    · have q := h.at_ j s e'
      cases s with
      | im d => obtain ⟨w, e1, r1⟩ := q; exact ⟨w, e1, r1.mono ei⟩
      | mu d =>
        obtain ⟨e1, n1, o1, r1, r2⟩ := q
        exact ⟨e1, by rw [upd_ne (h.ne j i _ _ e' hi ne)]; exact n1, o1, r1, r2.mono ei⟩
  · rcases set_get a with ⟨_, e'⟩ | ⟨_, a'⟩
    · cases e'
    · rcases set_get b with ⟨_, e'⟩ | ⟨_, b'⟩
      · cases e'
      · exact h.ne j k _ _ a' b' ne
theorem Gr.mut {m : List Addr} {I0 H0 : Hp} (g : Gr m I0 H0 I H) {a : Addr} {o : HO} (n : I a = none) (h : H0 a = none ∨ a ∈ m) : Gr m I0 H0 I (upd H a o) where
  i := g.i
  ih := fun x u q => by
    have z : x ≠ a := fun z => by rw [z, n] at q; cases q
    rw [upd_ne z]; exact g.ih x u q
  h := fun x u hx q => by
    have z : x ≠ a := fun z => by
      rcases h with h | h
      · rw [z, h] at q; cases q
      · exact hx (z ▸ h)
    rw [upd_ne z]; exact g.h x u hx q
  th := fun x q => by
    by_cases z : x = a
    · rw [z, upd_same]; exact nofun
    · rw [upd_ne z]; exact g.th x q
  fr := g.fr
theorem Gr.frz {m : List Addr} {I0 H0 : Hp} (g : Gr m I0 H0 I H) {a : Addr} {o : HO} (n : I a = none) (h : H0 a = none) (ho : H a = some o) : Gr m I0 H0 (upd I a o) H where
  i := g.i.trans (Ex.new n)
  ih := fun x u q => by
    by_cases z : x = a
    · rw [z, upd_same] at q; rw [z, ho]; exact q
    · rw [upd_ne z] at q; exact g.ih x u q
  h := g.h
  th := g.th
  fr := fun x q => by
    have z : x ≠ a := fun z => q (z ▸ h)
    rw [upd_ne z]; exact g.fr x q
end
theorem At.mono {c : Cz} {I I' H H' : Hp} {σ : St} {as : Nat → Addr} {Γ : Sl} (a : At c I σ H as Γ) (g : Gr [] I H I' H') : At c I' σ H' as Γ := ⟨a.gr.trans g.weak, a.lo.mono g, a.ok, a.fix⟩
theorem At.weak {c : Cz} {I H : Hp} {σ : St} {as : Nat → Addr} {Γ Γ' : Sl} (l : Le Γ' Γ) (a : At c I σ H as Γ) : At c I σ H as Γ' := ⟨a.gr, a.lo.weak l, fun i d h => a.ok i d (l.get h), a.fix⟩
theorem At.set {c : Cz} {I H : Hp} {σ : St} {as : Nat → Addr} {Γ : Sl} (a : At c I σ H as Γ) {i : Nat} {v : V} {d : D} (r : Rp c.K I v d) : At c I (σ.set i (some v)) H as (Γ.set i (some (.im d))) :=
  ⟨a.gr, a.lo.set r, fun j e h => by
    rcases set_get h with ⟨_, e'⟩ | ⟨_, h'⟩
    · cases e'
    · exact a.ok j e h', a.fix⟩
section
variable {c : Cz} {Γ Γ' : Sl} {κ : Ks} {te : TE} {t u ts : TS} {d : D} {ds : List D}
theorem b_next (h : κ.nx Γ) : B c Γ tNext κ := fun lb I σ H as De e a k => k.nx I σ H as Γ h e a
theorem b_brk (h : κ.bk Γ) : B c Γ tBreak κ := fun lb I σ H as De e a k => k.bk I σ H as Γ h e a
theorem b_cont (h : κ.ct Γ) : B c Γ tCont κ := fun lb I σ H as De e a k => k.ct I σ H as Γ h e a
theorem b_seq (h : B c Γ t { κ with nx := fun Γ' => B c Γ' u κ }) : B c Γ (tSeq t u) κ := fun lb I σ H as De e a k =>
  h lb I σ H as { De with nx := u De } e a ⟨fun I' σ' H' as' Γ' q e' a' => q lb I' σ' H' as' De e' a' k, k.rt, k.bk, k.ct, k.ex⟩
theorem b_weak (l : Le Γ' Γ) (h : B c Γ' ts κ) : B c Γ ts κ := fun lb I σ H as De e a k => h lb I σ H as De e (a.weak l) k
theorem b_ks {κ' : Ks} (h : B c Γ ts κ') (h1 : ∀ Γ, κ'.nx Γ → κ.nx Γ) (h2 : ∀ d Γ, κ'.rt d Γ → κ.rt d Γ) (h3 : ∀ Γ, κ'.bk Γ → κ.bk Γ) (h4 : ∀ Γ, κ'.ct Γ → κ.ct Γ) (h5 : ∀ Γ C ns ds, κ'.ex Γ C ns ds → κ.ex Γ C ns ds := by exact fun _ _ _ _ h => h) : B c Γ ts κ := fun lb I σ H as De e a k =>
  h lb I σ H as De e a ⟨fun I σ H as Γ q => k.nx I σ H as Γ (h1 Γ q), fun I H Γ v d q => k.rt I H Γ v d (h2 d Γ q), fun I σ H as Γ q => k.bk I σ H as Γ (h3 Γ q), fun I σ H as Γ q => k.ct I σ H as Γ (h4 Γ q), fun I σ H as Γ C ns ds dx q => k.ex I σ H as Γ C ns ds dx (h5 Γ C ns ds q)⟩
theorem b_set {i : Nat} (h : E c.K Γ te d) (k : κ.nx (Γ.set i (some (.im d)))) : B c Γ (tAsg te (gName i)) κ := fun lb I σ H as De e a q =>
  h I σ H as a.gr.ih a.lo _ fun I1 H1 v g r => q.nx _ _ _ _ _ k (e.trans g.i) ((a.mono g).set r)
theorem b_drop (h : E c.K Γ te d) (k : κ.nx Γ) : B c Γ (tDrop te) κ := fun lb I σ H as De e a q =>
  h I σ H as a.gr.ih a.lo _ fun I1 H1 v g r => q.nx _ _ _ _ _ k (e.trans g.i) (a.mono g)
theorem b_ret (h : E c.K Γ te d) (k : κ.rt d Γ) : B c Γ (tRet te) κ := fun lb I σ H as De e a q =>
  h I σ H as a.gr.ih a.lo _ fun I1 H1 v g r => q.rt _ _ _ _ _ k (e.trans g.i) (a.mono g).gr r fun p hp e1 he => by
    obtain ⟨_, _, o, ho, r1⟩ := (a.mono g).lo.at_ _ _ he
    rw [a.fix p hp] at ho
    exact ⟨o, ho, r1⟩
theorem b_retN (k : κ.rt .non Γ) : B c Γ tRetN κ := fun lb I σ H as De e a q =>
  q.rt _ _ _ _ _ k e a.gr .non fun p hp e1 he => by
    obtain ⟨_, _, o, ho, r1⟩ := a.lo.at_ _ _ he
    rw [a.fix p hp] at ho
    exact ⟨o, ho, r1⟩
theorem b_if {tc : TT} {b : Bool} (h : T c.K Γ tc b) (h1 : b = true → B c Γ t κ) (h2 : b = false → B c Γ u κ) : B c Γ (tIfS tc t u) κ := fun lb I σ H as De e a q =>
  h I σ H as a.gr.ih a.lo _ fun I1 H1 g => by
    cases b with
    | true => exact h1 rfl lb I1 σ H1 as De (e.trans g.i) (a.mono g) q
    | false => exact h2 rfl lb I1 σ H1 as De (e.trans g.i) (a.mono g) q
/-- a new list of the def's own -/
theorem b_new {i : Nat} {ta : TA} (h : EA c.K Γ ta ds) (hl : ds.length ≤ sizeLine) (hm : ∀ p ∈ c.m, p.1 ≠ i) (k : κ.nx (Γ.set i (some (.mu (.lst ds))))) : B c Γ (tAsg (tLst ta) (gName i)) κ := fun lb I σ H as De e a q =>
  h I σ H as a.gr.ih a.lo _ fun I1 H1 vs g r => by
    refine ⟨by rw [r.length]; exact hl, fun p hp => ?_⟩
    have a1 := a.mono g
    refine q.nx I1 _ _ (updA as i p) _ k (e.trans g.i) ⟨a1.gr.trans (Gr.junk a1.gr.ih hp), a1.lo.setNew a1.gr.ih hp (.lst r), fun j e1 h1 => ?_, fun p' hp' => by rw [updA_ne (hm p' hp')]; exact a1.fix p' hp'⟩
    rcases set_get h1 with ⟨rfl, _⟩ | ⟨ne, h'⟩
    · rw [updA_same]
      left
      cases z : c.H p with
      | none => rfl
      | some o => exact absurd hp (a1.gr.th p (by rw [z]; exact nofun))
    · rw [updA_ne ne]; exact a1.ok j e1 h'
theorem At.put {c : Cz} {I H : Hp} {σ : St} {as : Nat → Addr} {Γ : Sl} (a : At c I σ H as Γ) {i : Nat} {o : HO} {d0 d : D} (hi : Γ[i]? = some (some (.mu d0))) (r : MRp c.K I o d) : At c I σ (upd H (as i) o) as (Γ.set i (some (.mu d))) := by
  have n0 := (a.lo.at_ i _ hi).2.1
  refine ⟨a.gr.mut n0 ((a.ok i _ hi).imp_right fun z => List.mem_map_of_mem (f := fun p : Nat × Addr => p.2) z), a.lo.put hi r, fun j e h => ?_, a.fix⟩
  rcases set_get h with ⟨rfl, _⟩ | ⟨_, h'⟩
  · exact a.ok j _ hi
  · exact a.ok j e h'
/-- x.append(e) -/
theorem b_append {i : Nat} (hi : Γ[i]? = some (some (.mu (.lst ds)))) (h : E c.K Γ te d) (hl : ds.length < sizeLine) (k : κ.nx (Γ.set i (some (.mu (.lst (ds ++ [d])))))) : B c Γ (tDrop (tBM c.K "list" rAppend (tVar i) (tCons te tNil))) κ := fun lb I σ H as De e a q => by
  obtain ⟨hv, hn, o, ho, r⟩ := a.lo.at_ i _ hi
  cases r with
  | lst r =>
    refine ⟨_, hv, .inl ⟨rfl, _, SqL.of ho⟩, ?_⟩
    refine h I σ H as a.gr.ih a.lo _ fun I1 H1 v g r1 => ?_
    have ho1 := g.ex _ _ ho
    refine ⟨_, _, _, rfl, rfl, ho1, by rw [r.length]; exact hl, ?_⟩
    exact q.nx I1 _ _ as _ k (e.trans g.i) ((a.mono g).put hi (.lst ((r.mono g.i).append (.one r1))))
/-- the object of slot i changes no more -/
theorem At.freeze {c : Cz} {I H : Hp} {σ : St} {as : Nat → Addr} {Γ : Sl} (a : At c I σ H as Γ) {i : Nat} {d : D} (hi : Γ[i]? = some (some (.mu d))) (hm : ∀ p ∈ c.m, p.1 ≠ i) : ∃ I', Ex I I' ∧ At c I' σ H as (Γ.set i (some (.im d))) := by
  obtain ⟨hv, hn, o, ho, r⟩ := a.lo.at_ i _ hi
  have h0 : c.H (as i) = none := (a.ok i _ hi).resolve_right fun z => hm _ z rfl
  refine ⟨upd I (as i) o, Ex.new hn, a.gr.frz hn h0 ho, a.lo.freeze hi ho r, fun j e h => ?_, a.fix⟩
  rcases set_get h with ⟨_, e'⟩ | ⟨_, h'⟩
  · cases e'
  · exact a.ok j e h'
theorem b_freeze (i : Nat) (hi : Γ[i]? = some (some (.mu d))) (hm : ∀ p ∈ c.m, p.1 ≠ i) (h : B c (Γ.set i (some (.im d))) ts κ) : B c Γ ts κ := fun lb I σ H as De e a q => by
  obtain ⟨I', e', a'⟩ := a.freeze hi hm
  exact h lb I' σ H as De (e.trans e') a' q
end
end G

namespace G
open PySem PySem.Spec L2

/-! ### what is walked -/
def IsW (K : PySem.W.Frag) (I : Hp) (J : It) (xs : List D) : Prop := ∃ (Gc : Hp → Prop) (Y : Nat → Hp → V → Hp → Prop), Walk J xs.length Gc Y ∧ (∀ I1 H1, Ex I I1 → Ex I1 H1 → Gc H1) ∧
  ∀ i H x H' I1, i < xs.length → Y i H x H' → Ex I I1 → Ex I1 H → ∃ I2 d, Gr [] I1 H I2 H' ∧ xs[i]? = some d ∧ Rp K I2 x d
def Src (K : PySem.W.Frag) (Γ : Sl) (wi : TI) (xs : List D) : Prop := ∀ (I : Hp) (σ : St) (H : Hp) (as : Nat → Addr), Ex I H → Lo K I σ H as Γ → ∀ R : It → Hp → Prop, (∀ I' H' J, Gr [] I H I' H' → IsW K I' J xs → R J H') → wi σ H R
section
variable {K : PySem.W.Frag} {Γ Γ' : Sl} {te : TE} {ds : List D}
theorem isw_at {I : Hp} {J : It} {vs : List V} {ds : List D} {Gc : Hp → Prop} (w : Walk J vs.length Gc (YAt vs)) (hg : ∀ I1 H1, Ex I I1 → Ex I1 H1 → Gc H1) (r : Rps K I vs ds) : IsW K I J ds :=
  ⟨Gc, YAt vs, by rw [← r.length]; exact w, hg, fun i H x H' I1 _ y e e1 => by
    obtain ⟨rfl, hx⟩ := y
    obtain ⟨d, hd, rx⟩ := r.getV hx
    exact ⟨I1, d, Gr.refl e1, hd, rx.mono e⟩⟩
theorem src_list {d : D} (h : E K Γ te d) (hl : LD d ds) : Src K Γ (iList K te) ds := fun I σ H as e l R q => h I σ H as e l _ fun I1 H1 v g r => by
  obtain ⟨a, vs, rfl, hs, hr⟩ := r.l hl
  exact ⟨_, rfl, ⟨_, ex_l g.ih hs⟩, q I1 H1 _ g (isw_at walk_list (fun I2 H2 e1 e2 => ex_l (e1.trans e2) hs) hr)⟩
theorem src_tup (h : E K Γ te (.tup ds)) : Src K Γ (iTup K te) ds := fun I σ H as e l R q => h I σ H as e l _ fun I1 H1 v g r => by
  cases r with
  | tup hs hr => exact ⟨_, rfl, ⟨_, ex_t g.ih hs⟩, q I1 H1 _ g (isw_at walk_tup (fun I2 H2 e1 e2 => ex_t (e1.trans e2) hs) hr)⟩
/-- the signs of a text -/
def signs (z : Str) : List D := z.cps.toList.map fun c => .str ⟨#[c]⟩
theorem src_str {z : Str} (h : E K Γ te (.str z)) : Src K Γ (iStr te) (signs z) := fun I σ H as e l R q => h I σ H as e l _ fun I1 H1 v g r => by
  cases r
  refine ⟨z, rfl, q I1 H1 _ g ⟨fun _ => True, _, by rw [signs, List.length_map, Array.length_toList]; exact walk_str, fun _ _ _ _ => trivial, ?_⟩⟩
  rintro i H x H' I2 hi ⟨rfl, c, hc, rfl⟩ e1 e2
  refine ⟨I2, .str ⟨#[c]⟩, Gr.refl e2, ?_, .str _⟩
  rw [signs, List.getElem?_map, Array.getElem?_toList, hc]
  rfl
theorem isw_rng {I : Hp} {lo : Int} {n : Nat} : IsW K I (Itr lo n) ((List.range n).map fun (i : Nat) => D.int (lo + (i : Int))) := by
  refine ⟨fun _ => True, _, by rw [List.length_map, List.length_range]; exact walk_range, fun _ _ _ _ => trivial, ?_⟩
  rintro i H x H' I2 hi ⟨rfl, rfl⟩ e1 e2
  rw [List.length_map, List.length_range] at hi
  refine ⟨I2, .int (lo + i), Gr.refl e2, ?_, .int _⟩
  rw [List.getElem?_map, List.getElem?_range hi]
  rfl
theorem src_rng1 {ta : TA} {n : Int} (h : EA K Γ ta [.int n]) (h0 : -(2 ^ 62) ≤ n) (h1 : n < 2 ^ 62) : Src K Γ (iRng1 ta) ((List.range n.toNat).map fun (i : Nat) => D.int (i : Int)) := fun I σ H as e l R q => h I σ H as e l _ fun I1 H1 v g r => by
  cases r with
  | cons a b =>
    cases a; cases b
    refine ⟨n, rfl, h0, h1, q I1 H1 _ g ?_⟩
    have := isw_rng (K := K) (I := I1) (lo := 0) (n := n.toNat)
    simpa using this
theorem src_rng2 {ta : TA} {m n : Int} (h : EA K Γ ta [.int m, .int n]) (h0 : -(2 ^ 62) ≤ m ∧ m < 2 ^ 62 ∧ -(2 ^ 62) ≤ n ∧ n < 2 ^ 62) : Src K Γ (iRng2 ta) ((List.range (n - m).toNat).map fun (i : Nat) => D.int (m + (i : Int))) := fun I σ H as e l R q => h I σ H as e l _ fun I1 H1 v g r => by
  cases r with
  | cons a b =>
    cases a
    cases b with
    | cons a b =>
      cases a; cases b
      exact ⟨m, n, rfl, h0, q I1 H1 _ g isw_rng⟩
theorem isw_pair {I : Hp} {J : It} {n : Nat} {xf yf : Nat → Option V} {xs : List D} {Gc : Hp → Prop} (w : Walk J n Gc (YPair xf yf)) (hn : xs.length = n) (hg : ∀ I1 H1, Ex I I1 → Ex I1 H1 → Gc H1)
    (hx : ∀ i x y, i < n → xf i = some x → yf i = some y → ∃ d e, xs[i]? = some (.tup [d, e]) ∧ Rp K I x d ∧ Rp K I y e) : IsW K I J xs := by
  refine ⟨Gc, YPair xf yf, by rw [hn]; exact w, hg, ?_⟩
  rintro i H v H' I1 hi ⟨T, x, y, rfl, hT, rfl, h1, h2⟩ e1 e2
  obtain ⟨d, e, hd, rx, ry⟩ := hx i x y (hn ▸ hi) h1 h2
  have en := Ex.new (o := .tup [x, y]) (e2.free hT)
  exact ⟨_, _, Gr.new e2 hT, hd, .tup (.inl (.inl upd_same)) (.cons (rx.mono (e1.trans en)) (.cons (ry.mono (e1.trans en)) .nil))⟩
def enumD (ds : List D) : List D := ds.mapIdx fun i d => .tup [.int i, d]
theorem src_enum {ta : TA} {d : D} (h : EA K Γ ta [d]) (hl : LD d ds) : Src K Γ (iEnum K ta) (enumD ds) := fun I σ H as e l R q => h I σ H as e l _ fun I1 H1 v g r => by
  cases r with
  | cons a b =>
    cases b
    obtain ⟨a, vs, rfl, hs, hr⟩ := a.l hl
    · refine ⟨_, _, rfl, ex_l g.ih hs, q I1 H1 _ g (isw_pair walk_enum ?_ (fun I2 H2 e1 e2 => ex_l (e1.trans e2) hs) ?_)⟩
      · rw [enumD, List.length_mapIdx, hr.length]
      · intro i x y hi h1 h2
        obtain ⟨d, hd, rd⟩ := hr.getV h2
        refine ⟨.int i, d, ?_, ?_, rd⟩
        · rw [enumD, List.getElem?_mapIdx, hd]; rfl
        · cases h1; exact .int _
theorem src_zip {ta : TA} {d1 d2 : D} {es : List D} (h : EA K Γ ta [d1, d2]) (hl : LD d1 ds) (hl2 : LD d2 es) : Src K Γ (iZip K ta) ((ds.zip es).map fun p => .tup [p.1, p.2]) := fun I σ H as e l R q => h I σ H as e l _ fun I1 H1 v g r => by
  cases r with
  | cons a b =>
    cases b with
    | cons b c =>
      cases c
      obtain ⟨a, vs, rfl, hs, hr⟩ := a.l hl
      obtain ⟨a2, vs2, rfl, hs2, hr2⟩ := b.l hl2
      · · refine ⟨_, _, _, _, rfl, ex_l g.ih hs, ex_l g.ih hs2, q I1 H1 _ g (isw_pair (walk_zip (n := min ds.length es.length) ?_) ?_ (fun I2 H2 e1 e2 => ⟨ex_l (e1.trans e2) hs, ex_l (e1.trans e2) hs2⟩) ?_)⟩
          · rw [hr.length, hr2.length]
          · rw [List.length_map, List.length_zip]
          · intro i x y hi h1 h2
            obtain ⟨d, hd, rd⟩ := hr.getV h1
            obtain ⟨e, he, re⟩ := hr2.getV h2
            refine ⟨d, e, ?_, rd, re⟩
            rw [List.getElem?_map, List.getElem?_zip_eq_some (z := (d, e)) |>.mpr ⟨hd, he⟩]; rfl
theorem src_rev {ta : TA} {d : D} (h : EA K Γ ta [d]) (hl : LD d ds) : Src K Γ (iRev K ta) ds.reverse := fun I σ H as e l R q => h I σ H as e l _ fun I1 H1 v g r => by
  cases r with
  | cons a b =>
    cases b
    obtain ⟨a', xs, rfl, hs, hr⟩ := a.l hl
    · refine ⟨_, _, rfl, ex_l g.ih hs, q I1 H1 _ g ⟨fun H => SqL K H a' xs, _, by rw [List.length_reverse, ← hr.length]; exact walk_rev, fun I2 H2 e1 e2 => ex_l (e1.trans e2) hs, ?_⟩⟩
      rintro i H x H' I2 hi ⟨rfl, hx⟩ e1 e2
      obtain ⟨d, hd, rd⟩ := hr.getV hx
      rw [List.length_reverse] at hi
      refine ⟨I2, d, Gr.refl e2, ?_, rd.mono e1⟩
      rw [List.getElem?_reverse hi, ← hr.length]; exact hd
theorem src_or1 {w1 w2 : TI} (h : Src K Γ w1 ds) : Src K Γ (fun σ H R => w1 σ H R ∨ w2 σ H R) ds := fun I σ H as e l R q => .inl (h I σ H as e l R q)
theorem src_or2 {w1 w2 : TI} (h : Src K Γ w2 ds) : Src K Γ (fun σ H R => w1 σ H R ∨ w2 σ H R) ds := fun I σ H as e l R q => .inr (h I σ H as e l R q)

/-! ### targets -/
def MuSub (Γ' Γ : Sl) : Prop := ∀ (i : Nat) (d : D), Γ'[i]? = some (some (SV.mu d)) → Γ[i]? = some (some (SV.mu d))
structure Tgt (K : PySem.W.Frag) (g : TG) (d : D) (ws : List Nat) (Γ Γ' : Sl) : Prop where
  sub : MuSub Γ' Γ
  run : ∀ (I : Hp) (σ : St) (H : Hp) (as : Nat → Addr) (v : V), Ex I H → Lo K I σ H as Γ → Rp K I v d → ∀ Q : St → Hp → Prop, (∀ σ', Lo K I σ' H as Γ' → (∀ j, j ∉ ws → σ'[j]? = σ[j]?) → σ'.length = σ.length → Q σ' H) → g v σ H Q
structure Tgts (K : PySem.W.Frag) (g : TGs) (ds : List D) (ws : List Nat) (Γ Γ' : Sl) : Prop where
  sub : MuSub Γ' Γ
  run : ∀ (I : Hp) (σ : St) (H : Hp) (as : Nat → Addr) (vs : List V), Ex I H → Lo K I σ H as Γ → Rps K I vs ds → ∀ Q : St → Hp → Prop, (∀ σ', Lo K I σ' H as Γ' → (∀ j, j ∉ ws → σ'[j]? = σ[j]?) → σ'.length = σ.length → Q σ' H) → g vs σ H Q
theorem tgt_name {i : Nat} {d : D} : Tgt K (gName i) d [i] Γ (Γ.set i (some (.im d))) := ⟨fun j e h => by
    rcases set_get h with ⟨_, z⟩ | ⟨_, z⟩
    · cases z
    · exact z, fun I σ H as v e l r Q q => q _ (l.set r) (fun j hj => List.getElem?_set_ne (fun z => hj (by rw [z]; exact List.mem_singleton.mpr rfl))) (by simp)⟩
theorem tgs_nil : Tgts K gNil [] [] Γ Γ := ⟨fun _ _ h => h, fun I σ H as vs e l r Q q => by
    cases r
    exact ⟨rfl, q σ l (fun _ _ => rfl) rfl⟩⟩
theorem tgs_cons {g : TG} {gs : TGs} {d : D} {w1 w2 : List Nat} {Γ2 : Sl} (h : Tgt K g d w1 Γ Γ2) (hs : Tgts K gs ds w2 Γ2 Γ') : Tgts K (gCons g gs) (d :: ds) (w1 ++ w2) Γ Γ' := ⟨fun j e a => h.sub j e (hs.sub j e a), fun I σ H as vs e l r Q q => by
    cases r with
    | cons a b =>
      refine ⟨_, _, rfl, h.run I σ H as _ e l a _ fun σ1 l1 k1 n1 => hs.run I σ1 H as _ e l1 b _ fun σ2 l2 k2 n2 => q σ2 l2 (fun j hj => ?_) (n2.trans n1)⟩
      rw [List.mem_append] at hj
      exact (k2 j fun z => hj (.inr z)).trans (k1 j fun z => hj (.inl z))⟩
theorem tgt_tup {gs : TGs} {n : Nat} {ws : List Nat} (h : Tgts K gs ds ws Γ Γ') (hn : ds.length = n) : Tgt K (gTup K n gs) (.tup ds) ws Γ Γ' := ⟨h.sub, fun I σ H as v e l r Q q => by
    cases r with
    | tup hs hr => exact ⟨_, _, rfl, ex_t e hs, by rw [hr.length]; exact hn, h.run I σ H as _ e l hr Q q⟩⟩
end

/-! ### loops -/
section
variable {c : Cz} {Γ : Sl} {κ : Ks}
theorem b_for {wi : TI} {g : TG} {tb : TS} {xs : List D} (hs : Src c.K Γ wi xs) {S : Type} (R : Nat → S → Prop) (Γf : S → Sl) (s0 : S) (h0 : R 0 s0) (l0 : Le (Γf s0) Γ)
    (ht : ∀ i s d, xs[i]? = some d → R i s → ∃ ws Γ1, Tgt c.K g d ws (Γf s) Γ1 ∧ B c Γ1 tb ⟨fun Γ' => ∃ s', R (i + 1) s' ∧ Le (Γf s') Γ', κ.rt, κ.nx, fun Γ' => ∃ s', R (i + 1) s' ∧ Le (Γf s') Γ', κ.ex⟩)
    (hd : ∀ s, R xs.length s → κ.nx (Γf s)) : B c Γ (tFor wi g tb) κ := fun lb I σ H as De e a k =>
  hs I σ H as a.gr.ih a.lo _ fun I1 H1 J g1 hw => by
    obtain ⟨Gc, Y, w, hg, hy⟩ := hw
    refine for_it (g := g) (tb := tb) (D := De) w (fun i σ H => ∃ I as s, R i s ∧ Ex I1 I ∧ At c I σ H as (Γf s)) ⟨I1, as, s0, h0, Ex.refl _, (a.mono g1).weak l0⟩ (fun i σ H _ ⟨I, as, s, _, e1, a1⟩ => hg I H e1 a1.gr.ih) ?_ ?_
    · rintro i x σ H H' hi ⟨I, as, s, r, e1, a1⟩ y
      obtain ⟨I2, d, g2, hd2, rx⟩ := hy i H x H' I hi y e1 a1.gr.ih
      obtain ⟨ws, Γ1, tg, hb⟩ := ht i s d hd2 r
      have a2 := a1.mono g2
      refine tg.run I2 σ H' as x g2.ih a2.lo rx _ fun σ' lo' _ _ => ?_
      have e3 : Ex I1 I2 := e1.trans g2.i
      have e0 : Ex lb I1 := e.trans g1.i
      exact hb I1 I2 σ' H' as _ e3 ⟨a2.gr, lo', fun j d h => a2.ok j d (tg.sub j d h), a2.fix⟩ ⟨fun I3 σ3 H3 as3 Γ3 ⟨s', r', le⟩ e4 a4 => ⟨I3, as3, s', r', e4, a4.weak le⟩,
        fun I3 H3 Γ3 v d hr e4 => k.rt I3 H3 Γ3 v d hr (e0.trans e4), fun I3 σ3 H3 as3 Γ3 hb e4 a4 => k.nx I3 σ3 H3 as3 Γ3 hb (e0.trans e4) a4, fun I3 σ3 H3 as3 Γ3 ⟨s', r', le⟩ e4 a4 => ⟨I3, as3, s', r', e4, a4.weak le⟩, fun I3 σ3 H3 as3 Γ3 C ns ds dx hx e4 => k.ex I3 σ3 H3 as3 Γ3 C ns ds dx hx (e0.trans e4)⟩
    · rintro σ H ⟨I, as, s, r, e1, a1⟩
      exact k.nx I σ H as _ (hd s r) ((e.trans g1.i).trans e1) a1
theorem b_while {tc : TT} {tb : TS} {S : Type} (R : S → Prop) (b : S → Bool) (mes : S → Nat) (Γf : S → Sl) (s0 : S) (h0 : R s0) (l0 : Le (Γf s0) Γ) (hc : ∀ s, R s → T c.K (Γf s) tc (b s))
    (ht : ∀ s, R s → b s = true → B c (Γf s) tb ⟨fun Γ' => ∃ s', R s' ∧ mes s' < mes s ∧ Le (Γf s') Γ', κ.rt, κ.nx, fun Γ' => ∃ s', R s' ∧ mes s' < mes s ∧ Le (Γf s') Γ', κ.ex⟩)
    (hd : ∀ s, R s → b s = false → κ.nx (Γf s)) : B c Γ (tWhile tc tb) κ := fun lb I σ H as De e a k => by
  refine ⟨fun m σ H => ∃ I as s, R s ∧ m = mes s ∧ Ex lb I ∧ At c I σ H as (Γf s), ⟨mes s0, I, as, s0, h0, rfl, e, a.weak l0⟩, ?_⟩
  rintro m σ H ⟨I, as, s, r, rfl, e1, a1⟩
  refine hc s r I σ H as a1.gr.ih a1.lo _ fun I1 H1 g1 => ?_
  have a2 := a1.mono g1
  have e2 := e1.trans g1.i
  cases hb : b s with
  | true =>
    rw [if_pos rfl]
    refine ⟨fun σ' H' => ∃ I as s', R s' ∧ mes s' < mes s ∧ Ex lb I ∧ At c I σ' H' as (Γf s'), fun σ' H' ⟨I, as, s', r', lt, e', a'⟩ => ⟨_, lt, I, as, s', r', rfl, e', a'⟩, ?_⟩
    exact ht s r hb lb I1 σ H1 as _ e2 a2 ⟨fun I3 σ3 H3 as3 Γ3 ⟨s', r', lt, le⟩ e4 a4 => ⟨I3, as3, s', r', lt, e4, a4.weak le⟩, k.rt, fun I3 σ3 H3 as3 Γ3 hb e4 a4 => k.nx I3 σ3 H3 as3 Γ3 hb e4 a4, fun I3 σ3 H3 as3 Γ3 ⟨s', r', lt, le⟩ e4 a4 => ⟨I3, as3, s', r', lt, e4, a4.weak le⟩, k.ex⟩
  | false =>
    rw [if_neg Bool.false_ne_true]
    exact k.nx I1 σ H1 as _ (hd s r hb) e2 a2
end

/-! ### comprehensions -/
def wipeG (Γ : Sl) : List Nat → Sl
  | [] => Γ
  | v :: vs => (wipeG Γ vs).set v none
section
variable {K : PySem.W.Frag} {Γ : Sl}
theorem wipeG_len {vs : List Nat} : (wipeG Γ vs).length = Γ.length := by
  induction vs with
  | nil => rfl
  | cons v vs ih => unfold wipeG; rw [List.length_set, ih]
theorem wipeG_get {vs : List Nat} {i : Nat} {s : SV} (h : (wipeG Γ vs)[i]? = some (some s)) : Γ[i]? = some (some s) ∧ i ∉ vs := by
  induction vs with
  | nil => exact ⟨h, by simp⟩
  | cons v vs ih =>
    unfold wipeG at h
    rcases set_get h with ⟨_, z⟩ | ⟨ne, z⟩
    · cases z
    · obtain ⟨a, b⟩ := ih z
      exact ⟨a, by simp [ne, b]⟩
theorem wipe_get {σ : St} {vs : List Nat} {i : Nat} (h : i ∉ vs) : (wipe σ vs)[i]? = σ[i]? := by
  induction vs with
  | nil => rfl
  | cons v vs ih =>
    unfold wipe
    rw [List.getElem?_set_ne (fun z => h (by rw [z]; exact List.mem_cons_self)), ih fun z => h (List.mem_cons_of_mem _ z)]
theorem Lo.wipe {I H : Hp} {σ : St} {as : Nat → Addr} (l : Lo K I σ H as Γ) (vs : List Nat) : Lo K I (wipe σ vs) H as (wipeG Γ vs) := by
  refine ⟨fun i s h => ?_, fun i j d e a b => l.ne i j d e (wipeG_get a).1 (wipeG_get b).1, by rw [wipe_length, wipeG_len, l.len]⟩
  obtain ⟨h1, h2⟩ := wipeG_get h
  have q := l.at_ i s h1
  cases s with
  | im d => obtain ⟨v, e, r⟩ := q; exact ⟨v, by rw [wipe_get h2]; exact e, r⟩
  | mu d => obtain ⟨e, r⟩ := q; exact ⟨by rw [wipe_get h2]; exact e, r⟩
theorem wipe_eq {σ σ' : St} {vs ws : List Nat} (h : ∀ j, j ∉ ws → σ'[j]? = (wipe σ vs)[j]?) (hl : σ'.length = (wipe σ vs).length) (hw : ∀ j ∈ ws, j ∈ vs) : wipe σ' vs = wipe σ vs := by
  have key : ∀ (vs : List Nat) (σ1 σ2 : St), σ1.length = σ2.length → (∀ j, j ∉ vs → σ1[j]? = σ2[j]?) → wipe σ1 vs = wipe σ2 vs := by
    intro vs
    induction vs with
    | nil => intro σ1 σ2 _ h; exact List.ext_getElem? fun j => h j (by simp)
    | cons v vs ih =>
      intro σ1 σ2 hl h
      have e : (wipe σ1 vs).set v none = (wipe σ2 vs).set v none := by
        refine List.ext_getElem? fun j => ?_
        by_cases z : j = v
        · subst z
          rw [List.getElem?_set, List.getElem?_set, if_pos rfl, if_pos rfl, wipe_length, wipe_length, hl]
        · rw [List.getElem?_set_ne (Ne.symm z), List.getElem?_set_ne (Ne.symm z)]
          by_cases zz : j ∈ vs
          · have none_at : ∀ (vs : List Nat) (σ : St), j ∈ vs → (wipe σ vs)[j]? = if j < σ.length then some none else none := by
              intro vs
              induction vs with
              | nil => intro σ h; simp at h
              | cons u us ihh =>
                intro σ hm
                unfold wipe
                by_cases q : j = u
                · subst q; rw [List.getElem?_set, if_pos rfl, wipe_length]; 
                · rw [List.getElem?_set_ne (Ne.symm q)]
                  exact ihh σ ((List.mem_cons.mp hm).resolve_left q)
            rw [none_at vs σ1 zz, none_at vs σ2 zz, hl]
          · rw [wipe_get zz, wipe_get zz]
            exact h j (by simp [z, zz])
      exact e
  have e1 : wipe σ' vs = wipe (wipe σ vs) vs := key vs _ _ hl fun j hj => h j fun z => hj (hw j z)
  have e2 : wipe (wipe σ vs) vs = wipe σ vs := key vs _ _ (wipe_length σ vs) fun j hj => wipe_get hj
  exact e1.trans e2
theorem e_lc {α : Type} {xs : List α} {em : α → D} {p : α → Bool} {f : α → D} {wi : TI} {g : TG} {tt : TT} {te : TE} {vs : List Nat} (hs : Src K Γ wi (xs.map em)) (hl : xs.length ≤ 10000000)
    (ht : ∀ (i : Nat) (x : α), xs[i]? = some x → ∃ ws Γ1, Tgt K g (em x) ws (wipeG Γ vs) Γ1 ∧ (∀ j ∈ ws, j ∈ vs) ∧ T K Γ1 tt (p x) ∧ (p x = true → E K Γ1 te (f x))) : E K Γ (tLc wi g tt te vs) (.lst ((xs.filter p).map f)) := fun I σ H as e l Q q =>
  hs I σ H as e l _ fun I1 H1 J g1 hw => fun Dd hD => by
    obtain ⟨Gc, Y, w, hg, hy⟩ := hw
    rw [List.length_map] at w hy
    have fresh1 : I1 Dd = none := g1.ih.free hD
    refine lc_it (Qd := fun H => Q (.ref Dd) H) w (fun i H => ∃ I' acc, Gr [] I1 H1 I' H ∧ I' Dd = none ∧ H Dd = some (.lst acc) ∧ Rps K I' acc (((xs.take i).filter p).map f) ∧ Lo K I' σ H as Γ)
      ⟨I1, [], Gr.junk g1.ih hD, fresh1, upd_same, by simp; exact .nil, (l.mono g1).mono (Gr.junk g1.ih hD)⟩ (fun i H _ ⟨I', acc, g2, _⟩ => hg I' H g2.i g2.ih) ?_ ?_
    · rintro i v H2 H3 hi ⟨I2, acc, g2, n2, a2, r2, l2⟩ y
      obtain ⟨I3, d, g3, hd, rx⟩ := hy i H2 v H3 I2 hi y g2.i g2.ih
      rw [List.getElem?_map] at hd
      obtain ⟨x, hx⟩ : ∃ x, xs[i]? = some x := by
        cases hx : xs[i]? with
        | none => rw [hx] at hd; cases hd
        | some x => exact ⟨x, rfl⟩
      rw [hx] at hd
      cases hd
      obtain ⟨ws, Γ1, tg, hws, t1, t2⟩ := ht i x hx
      have nn : H2 Dd ≠ none := by rw [a2]; exact nofun
      refine tg.run I3 (wipe σ vs) H3 as v g3.ih ((l2.mono g3).wipe vs) rx _ fun σ' l' k' n' => ⟨wipe_eq k' n' hws, ?_⟩
      refine t1 I3 σ' H3 as g3.ih l' _ fun I4 H4 g4 => ?_
      have g34 := g3.trans g4
      have htake : xs.take (i + 1) = xs.take i ++ [x] := by rw [List.take_add_one, hx]; rfl
      have hlen : ((xs.take (i + 1)).filter p).length ≤ xs.length := Nat.le_trans (List.length_filter_le _ _) (by rw [List.length_take]; omega)
      cases hp : p x with
      | true =>
        rw [if_pos rfl]
        refine t2 hp I4 σ' H4 as g4.ih (l'.mono g4) _ fun I5 H5 z g5 r5 => ?_
        have g345 := g34.trans g5
        refine ⟨acc, g345.ex _ _ a2, ?_, I5, _, (g2.trans g345).mut (g345.none_i n2 nn) (.inl hD), g345.none_i n2 nn, upd_same, ?_, ?_⟩
        · have := r2.length
          rw [this, List.length_map]
          have h3 : ((xs.take i).filter p).length ≤ xs.length := Nat.le_trans (List.length_filter_le _ _) (by rw [List.length_take]; omega)
          rw [sizeLine_eq]; omega
        · rw [htake, List.filter_append, List.map_append]
          refine (r2.mono g345.i).append ?_
          simp [hp]
          exact .one r5
        · refine ⟨fun j s hj => ?_, l2.ne, l2.len⟩
          have q1 := (l2.mono g345).at_ j s hj
          cases s with
          | im d => exact q1
          | mu d =>
            obtain ⟨e1, n1, o1, r1, r3⟩ := q1
            refine ⟨e1, n1, o1, ?_, r3⟩
            have : as j ≠ Dd := fun z => by
              obtain ⟨_, _, o, ho, _⟩ := l.at_ j _ hj
              rw [z] at ho
              rw [g1.ex _ _ ho] at hD
              cases hD
            rw [upd_ne this]; exact r1
      | false =>
        rw [if_neg Bool.false_ne_true]
        refine ⟨I4, acc, g2.trans g34, g34.none_i n2 nn, g34.ex _ _ a2, ?_, l2.mono g34⟩
        rw [htake, List.filter_append, List.map_append]
        simp [hp]
        exact r2.mono g34.i
    · rintro H2 ⟨I2, acc, g2, n2, a2, r2, _⟩
      rw [List.take_of_length_le (Nat.le_refl _)] at r2
      have g12 := g1.trans g2
      have hH : H Dd = none := g1.ex.free hD
      refine q _ _ _ (g12.frz n2 hH a2) (.lst upd_same (r2.mono (Ex.new n2)))
end

/-! ### defs -/
/-- the promise of a def that raises nothing and changes nothing: R arguments result -/
def spR (K : PySem.W.Frag) (R : List D → D → Prop) : Sp := fun vs H Q _ => ∃ (I : Hp) (ds : List D) (d : D), Ex I H ∧ Rps K I vs ds ∧ R ds d ∧ ∀ I' H' v, Gr [] I H I' H' → Rp K I' v d → Q v H'
section
variable {K : PySem.W.Frag} {Γ : Sl}
theorem e_call {R : List D → D → Prop} {dvs : List V} {dds : List D} {EE : XK} {ta : TA} {ds : List D} {d : D} (ha : EA K Γ ta ds) (hd : ∀ I, Rps K I dvs dds) (hr : R (ds ++ dds) d) : E K Γ (tCall (spR K R) dvs EE ta) d := fun I σ H as e l Q q =>
  ha I σ H as e l _ fun I1 H1 vs g1 r1 => ⟨I1, _, d, g1.ih, r1.append (hd _), hr, fun I2 H2 v g2 r2 => q I2 H2 v (g1.trans g2) r2⟩
theorem e_call0 {R : List D → D → Prop} {EE : XK} {ta : TA} {ds : List D} {d : D} (ha : EA K Γ ta ds) (hr : R ds d) : E K Γ (tCall (spR K R) [] EE ta) d := e_call (dds := []) ha (fun _ => .nil) (by rw [List.append_nil]; exact hr)
/-- the slots at a def's entry -/
def slots (N : List Str) (ds : List D) : Sl := ds.map (fun d => some (.im d)) ++ List.replicate (N.length - ds.length) none
theorem lo_start {I H : Hp} {N : List Str} {vs : List V} {ds : List D} (r : Rps K I vs ds) : Lo K I (L2.start N vs) H (fun _ => 0) (slots N ds) := by
  have nomu : ∀ (i : Nat) (d : D), (slots N ds)[i]? ≠ some (some (SV.mu d)) := fun i d h => by
    unfold slots at h
    rw [List.getElem?_append] at h
    split at h
    · rw [List.getElem?_map] at h
      cases q : ds[i]? with
      | none => rw [q] at h; cases h
      | some x => rw [q] at h; cases h
    · have := List.getElem?_eq_some_iff.mp h
      obtain ⟨a, b⟩ := this
      rw [List.getElem_replicate] at b
      cases b
  refine ⟨fun i s h => ?_, fun i j d e a _ => absurd a (nomu i d), ?_⟩
  · cases s with
    | mu d => exact absurd h (nomu i d)
    | im d =>
      unfold slots at h
      rw [List.getElem?_append] at h
      split at h
      · rename_i hlt
        rw [List.getElem?_map] at h
        cases q : ds[i]? with
        | none => rw [q] at h; cases h
        | some x =>
          rw [q] at h
          cases h
          obtain ⟨v, hv, rv⟩ := r.get q
          refine ⟨v, ?_, rv⟩
          unfold L2.start
          rw [List.getElem?_append_left (by rw [List.length_map]; exact (List.getElem?_eq_some_iff.mp hv).1), List.getElem?_map, hv]
          rfl
      · have := List.getElem?_eq_some_iff.mp h
        obtain ⟨a, b⟩ := this
        rw [List.getElem_replicate] at b
        cases b
  · unfold L2.start slots
    simp [r.length]
/-- THE RULE for such a def -/
theorem ok_of {P : Program} {w : World} {mg : Str → Option Value} {base : Heap} {x qual : Str} {st : Stmt} {f : Addr} {fd : FuncData} {N ps : List Str} {k : Nat} {R : List D → D → Prop} (F : Fun K x qual st f fd) (S : FnScope N ps (defScope st)) (hn : ∀ ds d, R ds d → ds.length = ps.length)
    (hb : ∀ (cdv : Value) (A : Around) (outer : List Env) (s : Shared) (H : Hp) (E : XK), Room k (A.deeper (PyProof.Rows.envOfC qual (defScope st) s.heap.objs.size f cdv)) →
      ∃ t, PSs (cxOf CX0 P w K mg base N qual (defScope st) f cdv A outer s H E).nox (defBody st) t ∧ ∀ (I H' : Hp) ds d, R ds d → B ⟨K, I, H', [], fun _ _ _ _ => False⟩ (slots N ds) t { nx := fun _ => d = .non, rt := fun e _ => e = d }) :
    FnOk P w K mg base CX0 (k + 1) f fd ps (spR K R) := by
  refine F.ok S (fun vs H Q E h => ?_) (fun cdv A outer s H vs Q E hr h => ?_)
  · obtain ⟨I, ds, d, _, r, hR, _⟩ := h
    rw [r.length]; exact hn ds d hR
  · obtain ⟨I, ds, d, e, r, hR, q⟩ := h
    obtain ⟨t, ht, hB⟩ := hb cdv A outer s H E hr
    refine ⟨t, ht, hB I H ds d hR I I _ H (fun _ => 0) _ (Ex.refl _) ⟨Gr.refl e, lo_start r, fun i d h => ?_, fun p hp => nomatch hp⟩ ⟨fun I1 σ1 H1 as Γ1 h1 _ a1 => ?_, fun I1 H1 Γ1 v e1 h1 _ g1 r1 _ => ?_, fun _ _ _ _ _ h => h.elim, fun _ _ _ _ _ h => h.elim, fun _ _ _ _ _ _ _ _ _ h => h.elim⟩⟩
    · obtain ⟨_, _, o, _, _⟩ := (lo_start (N := N) (H := H) r).at_ i _ h
      exfalso
      unfold slots at h
      rw [List.getElem?_append] at h
      split at h
      · rw [List.getElem?_map] at h
        cases q : ds[i]? with
        | none => rw [q] at h; cases h
        | some x => rw [q] at h; cases h
      · obtain ⟨a, b⟩ := List.getElem?_eq_some_iff.mp h
        rw [List.getElem_replicate] at b
        cases b
    · have hd : d = .non := h1
      subst hd
      exact q I1 H1 .non a1.gr .non
    · have hd : e1 = d := h1
      subst hd
      exact q I1 H1 v g1 r1
end
end G

namespace G
open PySem PySem.Spec L2 PySem.SeqAt
open AutoSeq1 (wpAny_loadPart')
theorem dict_eq_declines_int (l : Addr) (o : Obj) (hc : o.cls = .type "dict") (b : Int) (u : Tok) :
    Meets (Builtin.«dict.__eq__» ⟨[.ref l, .int b u], []⟩) (fun _ R s => s.heap.get? l = some o ∧ R (.ok (.ret .notImplemented)) s) :=
  .of_wp fun prog w A R s h => by
    obtain ⟨hp, g, d, tk, os⟩ := s; obtain ⟨hl, h⟩ := h; have f1 := F.sub_int_dict
    obtain ⟨cls, dd, data, sl⟩ := o
    simp only at hc
    subst hc
    unfold Builtin.«dict.__eq__»
    wp_walk using wpAny_loadPart' hl, wpAny_load hl
    exact ⟨_, rfl, h⟩
theorem int_eq_declines_dict (b : Int) (u : Tok) (l : Addr) (o : Obj) (hc : o.cls = .type "dict") {es} {ep} (hd : o.data = .dict es ep) :
    Meets (Builtin.«int.__eq__» ⟨[.int b u, .ref l], []⟩) (fun _ R s => s.heap.get? l = some o ∧ R (.ok (.ret .notImplemented)) s) :=
  .of_wp fun prog w A R s h => by
    obtain ⟨hp, g, d, tk, os⟩ := s; obtain ⟨hl, h⟩ := h; have f1 := F.sub_dict_int
    obtain ⟨cls, dd, data, sl⟩ := o
    simp only at hc hd
    subst hc hd
    wp_walk using wpAny_loadPart' hl, wpAny_load hl
    exact ⟨_, rfl, h⟩
theorem rc_dict_int {A : Around} {s : Shared} {l : Addr} {o : Obj} {es} {ep} (b : Int) (u : Tok) (ho : s.heap.get? l = some o) (hc : o.cls = .type "dict") (hd : o.data = .dict es ep) (hu : A.units < cLine) : RcAt A s (.ref l) (.int b u) false := fun prog w E Q h => by
  obtain ⟨cls, dd, data, sl⟩ := o
  simp only at hc hd
  subst hc hd
  exact rc_eq_decline_or (k := false) ⟨_, ho, rfl⟩ (typeIs_int s b u) (by decide) F.sub_int_dict F.slot_dict_eq F.slot_int_eq_refl
    (fun _ hq => call_meets F.slot_dict_eq ⟨_, ho, rfl⟩ F.entry_dict_eq (F.args_dict_eq_2 _ _) (dict_eq_declines_int l _ rfl b u) ⟨ho, hq⟩)
    (fun _ hq => call_meets F.slot_int_eq_refl (typeIs_int s b u) F.entry_int_eq (F.args_int_eq_2 _ _) (int_eq_declines_dict b u l _ rfl rfl) ⟨ho, hq⟩)
    (fun _ hq => wpAny_of_eq (rfl : isSame (.ref l) (.int b u) = pure false) hq) (.inr hu) h
def rEqDi : R2 := fun x y H Q => ∃ a kvs j, x = .ref a ∧ H a = some (.dK kvs) ∧ y = .int j ∧ Q (.bl false) H
theorem op_eqDi {X : Cx} (hu : X.A.units + 64 < cLine) : OpR X (compareOp .Eq) rEqDi := by
  intro pins s σ H x y v u Q I rx ry h
  obtain ⟨a, kvs, j, rfl, e, rfl, q⟩ := h
  obtain rfl : v = Value.ref a := rx
  obtain ⟨t, rfl⟩ := (show ∃ t, u = Value.int j t from ry)
  obtain ⟨_, _, vs, _, o, es, ep, h1, h2, h3, _⟩ := (show ObjOk X.prog X.w H s.heap a (.dK kvs) from I.hok a _ e)
  exact (rc_dict_int j t h1 h2.1 h3 (by omega)) X.prog X.w _ _ ⟨.bl false, H, I, rfl, q⟩
end G

namespace G
open PySem L2

/-! ### rules that serve several kinds of values -/
section
variable {X : Cx}
theorem op_or {f : Value → Value → Sem Value} {r1 r2 : R2} (h1 : OpR X f r1) (h2 : OpR X f r2) : OpR X f (fun x y H Q => r1 x y H Q ∨ r2 x y H Q) := fun pins s σ H x y v u Q I rx ry h =>
  h.elim (fun h => h1 pins s σ H x y v u Q I rx ry h) (fun h => h2 pins s σ H x y v u Q I rx ry h)
theorem ca_or {f : Value} {r1 r2 : List V → Hp → VK → Prop} (h1 : CallR X f r1) (h2 : CallR X f r2) : CallR X f (fun x H Q => r1 x H Q ∨ r2 x H Q) := fun pins s σ H x u Q I rx h =>
  h.elim (fun h => h1 pins s σ H x u Q I rx h) (fun h => h2 pins s σ H x u Q I rx h)
theorem pi_or {tg it : Expr} {w1 w2 : TI} (h1 : PI X tg it w1) (h2 : PI X tg it w2) : PI X tg it (fun σ H R => w1 σ H R ∨ w2 σ H R) := ⟨fun pins s σ H R I h =>
  h.elim (fun h => h1.run pins s σ H R I h) (fun h => h2.run pins s σ H R I h)⟩
def rCatStr : R2 := fun x y H Q => ∃ i j, x = .str i ∧ y = .str j ∧ i.length + j.length ≤ sizeLine ∧ Q (.str (i ++ j)) H
def uAdd (K : PySem.W.Frag) : R2 := fun x y H Q => rI0 (fun i j => .int (i + j)) x y H Q ∨ (fun x y H Q => rCatStr x y H Q ∨ (fun x y H Q => rCat x y H Q ∨ rCatA K x y H Q) x y H Q) x y H Q
theorem op_uAdd : OpR X (binaryOp .Add) (uAdd X.K) := op_or op_add (op_or op_add_str (op_or op_cat op_catA))
def uMul : R2 := fun x y H Q => rI CMulW (fun i j => .int (i * j)) x y H Q ∨ rRep x y H Q
theorem op_uMul : OpR X (binaryOp .Mult) uMul := op_or op_mulW op_rep
def uEq (K : PySem.W.Frag) : R2 := fun x y H Q => rEq x y H Q ∨ (fun x y H Q => rEqD K x y H Q ∨ rEqDi x y H Q) x y H Q
def uNe (K : PySem.W.Frag) : R2 := fun x y H Q => rNe x y H Q ∨ rNeD K x y H Q
theorem op_uEq (hu : X.A.units + 64 < cLine) : OpR X (compareOp .Eq) (uEq X.K) := op_or op_eq (op_or (op_eqD hu) (op_eqDi hu))
theorem op_uNe (hu : X.A.units + 64 < cLine) : OpR X (compareOp .NotEq) (uNe X.K) := op_or op_ne (op_neD hu)
def rInSg : R2 := fun x y H Q => ∃ (c : Nat) (z : Str), x = .str ⟨#[c]⟩ ∧ y = .str z ∧ Q (.bl (decide (c ∈ z.cps.toList))) H
def rNiSg : R2 := fun x y H Q => ∃ (c : Nat) (z : Str), x = .str ⟨#[c]⟩ ∧ y = .str z ∧ Q (.bl (!decide (c ∈ z.cps.toList))) H
def uIn (K : PySem.W.Frag) : R2 := fun x y H Q => rInSg x y H Q ∨ rIn K false x y H Q
def uNi (K : PySem.W.Frag) : R2 := fun x y H Q => rNiSg x y H Q ∨ rIn K true x y H Q
theorem op_uIn : OpR X (compareOp .In) (uIn X.K) := op_or op_in_sign op_in_seq
theorem op_uNi : OpR X (compareOp .NotIn) (uNi X.K) := op_or op_notIn_sign op_notIn_seq
def uSl (K : PySem.W.Frag) : V → Option Int → Option Int → Hp → VK → Prop := fun x lo hi H Q => rSlL K x lo hi H Q ∨ (fun x lo hi H Q => rSlA K x lo hi H Q ∨ rSlS x lo hi H Q) x lo hi H Q
theorem sl_u : SlR X (uSl X.K) := sl_list.or (sl_tupA.or sl_str)
def rLn (K : PySem.W.Frag) : List V → Hp → VK → Prop := fun xs H Q => ∃ x n, xs = [x] ∧ LenV K x H n ∧ Q (.int n) H
def rLnD : List V → Hp → VK → Prop := fun xs H Q => ∃ a kvs, xs = [V.ref a] ∧ H a = some (.dK kvs) ∧ Q (.int kvs.length) H
def uLen (K : PySem.W.Frag) : List V → Hp → VK → Prop := fun x H Q => rLn K x H Q ∨ rLnD x H Q
theorem cr_uLen : CallR X (.builtin "len") (uLen X.K) := ca_or call_len call_lenD
/-- what is walked: a list, a tuple, a text -/
theorem pi_u {tg e : Expr} {te : TE} (he : PE X e te) : PI X tg e (fun σ H R => iList X.K te σ H R ∨ (fun σ H R => iTup X.K te σ H R ∨ iStr te σ H R) σ H R) := pi_or (pi_list he) (pi_or (pi_tup he) (pi_str he))
end

/-! ### what they give -/
section
variable {K : PySem.W.Frag} {Γ : Sl}
theorem bin_add_int {i j : Int} : Bin K (uAdd K) (.int i) (.int j) (.int (i + j)) := fun I H u v e r1 r2 Q q => by
  cases r1; cases r2
  exact .inl ⟨i, j, rfl, rfl, q I H _ (Gr.refl e) (.int _)⟩
theorem bin_add_str {x y : Str} (hl : x.length + y.length ≤ sizeLine) : Bin K (uAdd K) (.str x) (.str y) (.str (x ++ y)) := fun I H u v e r1 r2 Q q => by
  cases r1; cases r2
  exact .inr (.inl ⟨x, y, rfl, rfl, hl, q I H _ (Gr.refl e) (.str _)⟩)
theorem bin_add_lst {xs ys : List D} (hl : xs.length + ys.length ≤ sizeLine) : Bin K (uAdd K) (.lst xs) (.lst ys) (.lst (xs ++ ys)) := fun I H u v e r1 r2 Q q => by
  cases r1 with
  | lst a b =>
    cases r2 with
    | lst a2 b2 =>
      refine .inr (.inr (.inl ⟨_, _, _, _, rfl, rfl, e _ _ a, e _ _ a2, by rw [b.length, b2.length]; exact hl, fun p hp => ?_⟩))
      exact q _ _ _ (Gr.new e hp) (.lst upd_same ((b.append b2).mono (Ex.new (e.free hp))))
theorem Rps.nil_iff {I : Hp} {vs : List V} {ds : List D} (r : Rps K I vs ds) : vs = [] ↔ ds = [] := by cases r <;> simp
theorem bin_add_tup {xs ys : List D} (hl : xs.length + ys.length ≤ sizeLine) : Bin K (uAdd K) (.tup xs) (.tup ys) (.tup (xs ++ ys)) := fun I H u v e r1 r2 Q q => by
  cases r1 with
  | tup a b =>
    cases r2 with
    | tup a2 b2 =>
      refine .inr (.inr (.inr ⟨_, _, _, _, rfl, rfl, ex_t e a, ex_t e a2, by rw [b.length, b2.length]; exact hl, fun h => ?_, fun _ h => ?_, fun _ _ p hp => ?_⟩))
      · have := b.nil_iff.mp h; subst this
        exact q I H _ (Gr.refl e) (.tup a2 b2)
      · have := b2.nil_iff.mp h; subst this
        rw [List.append_nil] at q
        exact q I H _ (Gr.refl e) (.tup a b)
      · exact q _ _ _ (Gr.new e hp) (.tup (.inl (.inl upd_same)) ((b.append b2).mono (Ex.new (e.free hp))))
theorem bin_sub {i j : Int} : Bin K (rI0 fun i j => .int (i - j)) (.int i) (.int j) (.int (i - j)) := fun I H u v e r1 r2 Q q => by
  cases r1; cases r2
  exact ⟨i, j, rfl, rfl, q I H _ (Gr.refl e) (.int _)⟩
theorem bin_I0 {g : Int → Int → Int} {i j : Int} : Bin K (rI0 fun i j => .int (g i j)) (.int i) (.int j) (.int (g i j)) := fun I H u v e r1 r2 Q q => by
  cases r1; cases r2
  exact ⟨i, j, rfl, rfl, q I H _ (Gr.refl e) (.int _)⟩
theorem bin_I {P : Int → Int → Prop} {g : Int → Int → Int} {i j : Int} (h : P i j) : Bin K (rI P fun i j => .int (g i j)) (.int i) (.int j) (.int (g i j)) := fun I H u v e r1 r2 Q q => by
  cases r1; cases r2
  exact ⟨i, j, rfl, rfl, h, q I H _ (Gr.refl e) (.int _)⟩
theorem bin_mul {i j : Int} (h : i.natAbs.log2 + j.natAbs.log2 < 1000000) : Bin K uMul (.int i) (.int j) (.int (i * j)) := fun I H u v e r1 r2 Q q => by
  cases r1; cases r2
  exact .inl ⟨i, j, rfl, rfl, h, q I H _ (Gr.refl e) (.int _)⟩
theorem bin_rep {xs : List D} {n : Int} (h0 : -(2 ^ 63) ≤ n) (h1 : n < 2 ^ 63) (hl : xs.length * n.toNat ≤ sizeLine) : Bin K uMul (.lst xs) (.int n) (.lst (List.replicate n.toNat xs).flatten) := fun I H u v e r1 r2 Q q => by
  cases r1 with
  | lst a b =>
    cases r2
    refine .inr ⟨_, _, _, rfl, rfl, e _ _ a, h0, h1, by rw [b.length]; exact hl, fun p hp => ?_⟩
    refine q _ _ _ (Gr.new e hp) (.lst upd_same ?_)
    have key : ∀ m : Nat, Rps K I (List.replicate m _).flatten (List.replicate m xs).flatten := fun m => by
      induction m with
      | zero => exact .nil
      | succ m ih => rw [List.replicate_succ, List.replicate_succ, List.flatten_cons, List.flatten_cons]; exact b.append ih
    exact (key n.toNat).mono (Ex.new (e.free hp))
/-! comparisons -/
theorem bin_cmpI {p : Int → Int → Bool} {i j : Int} : Bin K (rI0 fun i j => .bl (p i j)) (.int i) (.int j) (.bl (p i j)) := fun I H u v e r1 r2 Q q => by
  cases r1; cases r2
  exact ⟨i, j, rfl, rfl, q I H _ (Gr.refl e) (.bl _)⟩
theorem bin_eq_int {i j : Int} : Bin K (uEq K) (.int i) (.int j) (.bl (decide (i = j))) := fun I H u v e r1 r2 Q q => by
  cases r1; cases r2
  refine .inl ⟨rfl, ?_⟩
  have : decide (V.int i = V.int j) = decide (i = j) := by simp
  rw [this]; exact q I H _ (Gr.refl e) (.bl _)
theorem bin_eq_str {i j : Str} : Bin K (uEq K) (.str i) (.str j) (.bl (decide (i = j))) := fun I H u v e r1 r2 Q q => by
  cases r1; cases r2
  refine .inl ⟨rfl, ?_⟩
  have : decide (V.str i = V.str j) = decide (i = j) := by simp
  rw [this]; exact q I H _ (Gr.refl e) (.bl _)
theorem bin_eq_bl {i j : Bool} : Bin K (uEq K) (.bl i) (.bl j) (.bl (decide (i = j))) := fun I H u v e r1 r2 Q q => by
  cases r1; cases r2
  refine .inl ⟨rfl, ?_⟩
  have : decide (V.bl i = V.bl j) = decide (i = j) := by simp
  rw [this]; exact q I H _ (Gr.refl e) (.bl _)
theorem bin_ne_int {i j : Int} : Bin K (uNe K) (.int i) (.int j) (.bl (!decide (i = j))) := fun I H u v e r1 r2 Q q => by
  cases r1; cases r2
  refine .inl ⟨rfl, ?_⟩
  have : decide (V.int i = V.int j) = decide (i = j) := by simp
  rw [this]; exact q I H _ (Gr.refl e) (.bl _)
theorem bin_ne_str {i j : Str} : Bin K (uNe K) (.str i) (.str j) (.bl (!decide (i = j))) := fun I H u v e r1 r2 Q q => by
  cases r1; cases r2
  refine .inl ⟨rfl, ?_⟩
  have : decide (V.str i = V.str j) = decide (i = j) := by simp
  rw [this]; exact q I H _ (Gr.refl e) (.bl _)
theorem bin_ne_bl {i j : Bool} : Bin K (uNe K) (.bl i) (.bl j) (.bl (!decide (i = j))) := fun I H u v e r1 r2 Q q => by
  cases r1; cases r2
  refine .inl ⟨rfl, ?_⟩
  have : decide (V.bl i = V.bl j) = decide (i = j) := by simp
  rw [this]; exact q I H _ (Gr.refl e) (.bl _)
/-! data for == at any depth -/
mutual
def toP : D → PyData
  | .non => .none
  | .bl b => .bool b
  | .int i => .int i
  | .str s => .str s
  | .lst ds => .list (toPs ds)
  | .fl ds => .list (toPs ds)
  | .tup ds => .tuple (toPs ds)
  | _ => .none
def toPs : List D → List PyData
  | [] => []
  | d :: ds => toP d :: toPs ds
end
mutual
/-- data that == may be asked of -/
def isP : D → Bool
  | .non => true
  | .bl _ => true
  | .int _ => true
  | .str _ => true
  | .lst ds => isPs ds
  | .fl ds => isPs ds
  | .tup ds => isPs ds
  | _ => false
def isPs : List D → Bool
  | [] => true
  | d :: ds => isP d && isPs ds
end
mutual
theorem dp_of {I : Hp} : ∀ {v : V} {d : D}, Rp K I v d → isP d = true → Dp K I v (toP d)
  | _, _, .non, _ => by rw [toP]; exact .non
  | _, _, .bl b, _ => by rw [toP]; exact .bl b
  | _, _, .int i, _ => by rw [toP]; exact .int i
  | _, _, .str x, _ => by rw [toP]; exact .str x
  | _, _, .lst h r, p => by rw [toP]; exact .lst (.inl (.inl h)) (dps_of r (by simpa [isP] using p))
  | _, _, .fl h r, p => by rw [toP]; exact .lst h (dps_of r (by simpa [isP] using p))
  | _, _, .tup h r, p => by rw [toP]; exact .tup h (dps_of r (by simpa [isP] using p))
  | _, _, .dic _ _ _, p => by simp [isP] at p
  | _, _, .obj _ _ _, p => by simp [isP] at p
  | _, _, .ty _, p => by simp [isP] at p
  | _, _, .ref _, p => by simp [isP] at p
theorem dps_of {I : Hp} : ∀ {vs : List V} {ds : List D}, Rps K I vs ds → isPs ds = true → DpAll K I vs (toPs ds)
  | _, _, .nil, _ => by rw [toPs]; exact .nil
  | _, _, .cons h r, p => by
    rw [isPs, Bool.and_eq_true] at p
    rw [toPs]; exact .cons (dp_of h p.1) (dps_of r p.2)
end
theorem Dp.mono' {I H : Hp} (e : Ex I H) : ∀ {p : PyData} {v : V}, Dp K I v p → Dp K H v p
  | _, _, .non => .non
  | _, _, .bl b => .bl b
  | _, _, .int b => .int b
  | _, _, .str b => .str b
  | _, _, .lst h r => .lst (ex_l e h) (DpAll.mono'' e r)
  | _, _, .tup h r => .tup (ex_t e h) (DpAll.mono'' e r)
where
  DpAll.mono'' {I H : Hp} (e : Ex I H) : ∀ {p : List PyData} {v : List V}, DpAll K I v p → DpAll K H v p
  | _, _, .nil => .nil
  | _, _, .cons h r => .cons (Dp.mono' e h) (DpAll.mono'' e r)

theorem bin_eqD {x y : D} (hx : isP x = true) (hy : isP y = true) (sx : SeqAt.shaped (toP x) = true) (sy : SeqAt.shaped (toP y) = true) : Bin K (uEq K) x y (.bl (PyData.eqv (toP x) (toP y))) := fun I H u v e r1 r2 Q q =>
  .inr (.inl ⟨_, _, Dp.mono' e (dp_of r1 hx), Dp.mono' e (dp_of r2 hy), sx, sy, q I H _ (Gr.refl e) (.bl _)⟩)
theorem bin_eq_di {ks : List Key} {ds : List D} {j : Int} : Bin K (uEq K) (.dic ks ds) (.int j) (.bl false) := fun I H u v e r1 r2 Q q => by
  cases r1 with
  | dic a _ _ =>
    cases r2
    exact .inr (.inr ⟨_, _, j, rfl, e _ _ a, rfl, q I H _ (Gr.refl e) (.bl _)⟩)
theorem bin_neD {x y : D} (hx : isP x = true) (hy : isP y = true) (sx : SeqAt.shaped (toP x) = true) (sy : SeqAt.shaped (toP y) = true) : Bin K (uNe K) x y (.bl (!PyData.eqv (toP x) (toP y))) := fun I H u v e r1 r2 Q q =>
  .inr ⟨_, _, Dp.mono' e (dp_of r1 hx), Dp.mono' e (dp_of r2 hy), sx, sy, q I H _ (Gr.refl e) (.bl _)⟩
/-! in -/
theorem bin_in_sg {c : Nat} {z : Str} : Bin K (uIn K) (.str ⟨#[c]⟩) (.str z) (.bl (decide (c ∈ z.cps.toList))) := fun I H u v e r1 r2 Q q => by
  cases r1; cases r2
  exact .inl ⟨c, z, rfl, rfl, q I H _ (Gr.refl e) (.bl _)⟩
theorem bin_ni_sg {c : Nat} {z : Str} : Bin K (uNi K) (.str ⟨#[c]⟩) (.str z) (.bl (!decide (c ∈ z.cps.toList))) := fun I H u v e r1 r2 Q q => by
  cases r1; cases r2
  exact .inl ⟨c, z, rfl, rfl, q I H _ (Gr.refl e) (.bl _)⟩
def flatD : D → Bool
  | .non => true
  | .bl _ => true
  | .int _ => true
  | .str _ => true
  | _ => false
def toV : D → V
  | .bl b => .bl b
  | .int i => .int i
  | .str s => .str s
  | _ => .non
theorem rp_toV {I : Hp} {v : V} {d : D} (r : Rp K I v d) (f : flatD d = true) : v = toV d ∧ flatV v = true := by
  cases r <;> first | exact ⟨rfl, rfl⟩ | cases f
theorem rps_toV {I : Hp} : ∀ {vs : List V} {ds : List D}, Rps K I vs ds → ds.all flatD = true → vs = ds.map toV ∧ vs.all flatV = true
  | _, _, .nil, _ => ⟨rfl, rfl⟩
  | _, _, .cons h r, f => by
    rw [List.all_cons, Bool.and_eq_true] at f
    obtain ⟨a, b⟩ := rp_toV h f.1
    obtain ⟨c, d⟩ := rps_toV r f.2
    exact ⟨by rw [a, c]; rfl, by rw [List.all_cons, b, d]; rfl⟩
/-- x in xs of flat data -/
def inD (x : D) (xs : List D) : Bool := xs.any fun y => eqV (toV y) (toV x)
theorem inV_eq {x : D} {xs : List D} : inV (toV x) (xs.map toV) = inD x xs := by unfold inV inD; rw [List.any_map]; rfl
theorem bin_in_l {x y : D} {ds : List D} (hl : LD y ds) (hx : flatD x = true) (hf : ds.all flatD = true) : Bin K (uIn K) x y (.bl (inD x ds)) := fun I H u v e r1 r2 Q q => by
  obtain ⟨a, vs, rfl, hs, hr⟩ := r2.l hl
  obtain ⟨rfl, b1⟩ := rp_toV r1 hx
  obtain ⟨rfl, b2⟩ := rps_toV hr hf
  refine .inr ⟨a, _, rfl, .inl (ex_l e hs), b1, b2, ?_⟩
  rw [if_neg Bool.false_ne_true, inV_eq]
  exact q I H _ (Gr.refl e) (.bl _)
theorem bin_ni_l {x y : D} {ds : List D} (hl : LD y ds) (hx : flatD x = true) (hf : ds.all flatD = true) : Bin K (uNi K) x y (.bl (!inD x ds)) := fun I H u v e r1 r2 Q q => by
  obtain ⟨a, vs, rfl, hs, hr⟩ := r2.l hl
  obtain ⟨rfl, b1⟩ := rp_toV r1 hx
  obtain ⟨rfl, b2⟩ := rps_toV hr hf
  refine .inr ⟨a, _, rfl, .inl (ex_l e hs), b1, b2, ?_⟩
  rw [if_pos rfl, inV_eq]
  exact q I H _ (Gr.refl e) (.bl _)
theorem bin_in_t {x : D} {ds : List D} (hx : flatD x = true) (hf : ds.all flatD = true) : Bin K (uIn K) x (.tup ds) (.bl (inD x ds)) := fun I H u v e r1 r2 Q q => by
  cases r2 with
  | tup hs hr =>
    obtain ⟨rfl, b1⟩ := rp_toV r1 hx
    obtain ⟨rfl, b2⟩ := rps_toV hr hf
    refine .inr ⟨_, _, rfl, .inr (ex_t e hs), b1, b2, ?_⟩
    rw [if_neg Bool.false_ne_true, inV_eq]
    exact q I H _ (Gr.refl e) (.bl _)
theorem bin_ni_t {x : D} {ds : List D} (hx : flatD x = true) (hf : ds.all flatD = true) : Bin K (uNi K) x (.tup ds) (.bl (!inD x ds)) := fun I H u v e r1 r2 Q q => by
  cases r2 with
  | tup hs hr =>
    obtain ⟨rfl, b1⟩ := rp_toV r1 hx
    obtain ⟨rfl, b2⟩ := rps_toV hr hf
    refine .inr ⟨_, _, rfl, .inr (ex_t e hs), b1, b2, ?_⟩
    rw [if_pos rfl, inV_eq]
    exact q I H _ (Gr.refl e) (.bl _)
/-! items -/
theorem rps_at {I : Hp} {vs : List V} {ds : List D} {i : Int} {d : D} (r : Rps K I vs ds) (h : atI ds i = some d) : ∃ v, atI vs i = some v ∧ Rp K I v d := by
  unfold atI at h ⊢
  rw [r.length]
  cases hx : ixN ds.length i with
  | none => rw [hx] at h; cases h
  | some j =>
    rw [hx] at h
    exact r.get (i := j) h
theorem bin_ix_l {x d : D} {ds : List D} {i : Int} (hl : LD x ds) (h : atI ds i = some d) : Bin K (rIx K) x (.int i) d := fun I H u v e r1 r2 Q q => by
  obtain ⟨a, vs, rfl, hs, hr⟩ := r1.l hl
  cases r2
  obtain ⟨w, hw, rw'⟩ := rps_at hr h
  exact .inl ⟨a, vs, i, w, rfl, rfl, ex_l e hs, hw, q I H _ (Gr.refl e) rw'⟩
theorem bin_ix_t {d : D} {ds : List D} {i : Int} (h : atI ds i = some d) : Bin K (rIx K) (.tup ds) (.int i) d := fun I H u v e r1 r2 Q q => by
  cases r1 with
  | tup hs hr =>
    cases r2
    obtain ⟨w, hw, rw'⟩ := rps_at hr h
    exact .inr (.inl ⟨_, _, i, w, rfl, rfl, ex_t e hs, hw, q I H _ (Gr.refl e) rw'⟩)
theorem bin_ix_s {z : Str} {c : Nat} {i : Int} (hl : z.length ≤ sizeLine) (h : atI z.cps.toList i = some c) : Bin K (rIx K) (.str z) (.int i) (.str ⟨#[c]⟩) := fun I H u v e r1 r2 Q q => by
  cases r1; cases r2
  exact .inr (.inr ⟨z, i, c, rfl, rfl, hl, h, q I H _ (Gr.refl e) (.str _)⟩)
/-- an item of a list that may change -/
theorem e_ixC {ta tb : TE} {ds : List D} {i : Int} {d : D} (ha : C K Γ ta ds) (hb : E K Γ tb (.int i)) (h : atI ds i = some d) : E K Γ (tOp (rIx K) ta tb) d := fun I σ H as e l Q q =>
  ha I σ H as e l _ fun I1 H1 a vs g1 hs r1 => hb I1 σ H1 as g1.ih (l.mono g1) _ fun I2 H2 w g2 r2 => by
    cases r2
    obtain ⟨w, hw, rw'⟩ := rps_at r1 h
    exact .inl ⟨a, vs, i, w, rfl, rfl, ex_l g2.ex hs, hw, q I2 H2 w (g1.trans g2) (rw'.mono g2.i)⟩
/-! slices -/
def cutD (xs : List D) (lo hi : Option Int) : List D := (xs.drop (HT.sIx xs.length 0 lo)).take (HT.sIx xs.length xs.length hi - HT.sIx xs.length 0 lo)
theorem rps_cut {I : Hp} {vs : List V} {ds : List D} {lo hi : Option Int} (r : Rps K I vs ds) : Rps K I (cutV vs lo hi) (cutD ds lo hi) := by
  unfold cutV cutD
  rw [r.length]
  exact (r.drop _).take _
theorem eo_none : EO K Γ tNoPart none := fun I σ H as e l Q q => q I H (Gr.refl e)
theorem eo_some {te : TE} {i : Int} (h : E K Γ te (.int i)) : EO K Γ (tPart te) (some i) := fun I σ H as e l Q q => h I σ H as e l _ fun I1 H1 v g1 r1 => by
  cases r1
  exact ⟨i, rfl, q I1 H1 g1⟩
theorem e_slC {te : TE} {tl th : TO} {ds : List D} {lo hi : Option Int} (h : C K Γ te ds) (h1 : EO K Γ tl lo) (h2 : EO K Γ th hi) : E K Γ (tSl (uSl K) te tl th) (.lst (cutD ds lo hi)) := fun I σ H as e l Q q =>
  h I σ H as e l _ fun I1 H1 a vs g1 hs r1 => h1 I1 σ H1 as g1.ih (l.mono g1) _ fun I2 H2 g2 => h2 I2 σ H2 as g2.ih (l.mono (g1.trans g2)) _ fun I3 H3 g3 => by
    refine .inl ⟨a, vs, rfl, ex_l (g2.trans g3).ex hs, fun p hp => ?_⟩
    have g := (g1.trans g2).trans g3
    exact q _ _ _ (g.trans (Gr.new g.ih hp)) (.lst upd_same ((rps_cut (r1.mono (g2.trans g3).i)).mono (Ex.new (g.ih.free hp))))
theorem e_sl_l {te : TE} {tl th : TO} {d : D} {ds : List D} {lo hi : Option Int} (h : E K Γ te d) (hl : LD d ds) (h1 : EO K Γ tl lo) (h2 : EO K Γ th hi) : E K Γ (tSl (uSl K) te tl th) (.lst (cutD ds lo hi)) := e_slC (h.c hl) h1 h2
theorem e_sl_s {te : TE} {tl th : TO} {z : Str} {lo hi : Option Int} (h : E K Γ te (.str z)) (h1 : EO K Γ tl lo) (h2 : EO K Γ th hi) (hl : z.length ≤ sizeLine) : E K Γ (tSl (uSl K) te tl th) (.str (cutS z lo hi)) := fun I σ H as e l Q q =>
  h I σ H as e l _ fun I1 H1 v g1 r1 => h1 I1 σ H1 as g1.ih (l.mono g1) _ fun I2 H2 g2 => h2 I2 σ H2 as g2.ih (l.mono (g1.trans g2)) _ fun I3 H3 g3 => by
    cases r1
    exact .inr (.inr ⟨z, rfl, hl, q I3 H3 _ ((g1.trans g2).trans g3) (.str _)⟩)
theorem e_sl_t {te : TE} {tl th : TO} {ds : List D} {lo hi : Option Int} (h : E K Γ te (.tup ds)) (h1 : EO K Γ tl lo) (h2 : EO K Γ th hi) : E K Γ (tSl (uSl K) te tl th) (.tup (cutD ds lo hi)) := fun I σ H as e l Q q =>
  h I σ H as e l _ fun I1 H1 v g1 r1 => h1 I1 σ H1 as g1.ih (l.mono g1) _ fun I2 H2 g2 => h2 I2 σ H2 as g2.ih (l.mono (g1.trans g2)) _ fun I3 H3 g3 => by
    cases r1 with
    | @tup a vs _ hs hr =>
      have g := (g1.trans g2).trans g3
      have hs3 := ex_t (g2.trans g3).i hs
      have hr3 := hr.mono (g2.trans g3).i
      refine .inr (.inl ⟨a, vs, rfl, ex_t g3.ih hs3, fun hw => ?_, fun _ p hp => ?_⟩)
      · have : cutD ds lo hi = ds := by
          unfold cutD
          rw [← hr.length, hw.1, hw.2, List.drop_zero, Nat.sub_zero, hr.length]
          exact List.take_length
        rw [this] at q
        exact q I3 H3 _ g (.tup hs3 hr3)
      · exact q _ _ _ (g.trans (Gr.new g.ih hp)) (.tup (.inl (.inl upd_same)) ((rps_cut hr3).mono (Ex.new (g.ih.free hp))))
/-! built-in functions -/
theorem ca_len_s {z : Str} (hl : z.length ≤ sizeLine) : Ca K (uLen K) [.str z] (.int z.length) := fun I H us e r Q q => by
  cases r with
  | cons a b =>
    cases b; cases a
    exact .inl ⟨_, z.length, rfl, ⟨hl, rfl⟩, q I H _ (Gr.refl e) (.int _)⟩
theorem ca_len_l {d : D} {ds : List D} (hl : LD d ds) : Ca K (uLen K) [d] (.int ds.length) := fun I H us e r Q q => by
  cases r with
  | cons a b =>
    cases b
    obtain ⟨a, vs, rfl, hs, hr⟩ := a.l hl
    exact .inl ⟨_, ds.length, rfl, .inl ⟨vs, ex_l e hs, hr.length.symm⟩, q I H _ (Gr.refl e) (.int _)⟩
theorem ca_len_t {ds : List D} : Ca K (uLen K) [.tup ds] (.int ds.length) := fun I H us e r Q q => by
  cases r with
  | cons a b =>
    cases b
    cases a with
    | tup hs hr => exact .inl ⟨_, ds.length, rfl, .inr ⟨_, ex_t e hs, hr.length.symm⟩, q I H _ (Gr.refl e) (.int _)⟩
theorem ca_len_d {ks : List Key} {ds : List D} : Ca K (uLen K) [.dic ks ds] (.int ks.length) := fun I H us e r Q q => by
  cases r with
  | cons a b =>
    cases b
    cases a with
    | @dic _ _ vs _ h1 h2 h3 =>
      refine .inr ⟨_, _, rfl, e _ _ h1, ?_⟩
      have : (ks.zip vs).length = ks.length := by rw [List.length_zip, ← h2]; omega
      rw [this]
      exact q I H _ (Gr.refl e) (.int _)
theorem e_lenC {te : TE} {ds : List D} (h : C K Γ te ds) : E K Γ (tCB (uLen K) (tCons te tNil)) (.int ds.length) := fun I σ H as e l Q q =>
  h I σ H as e l _ fun I1 H1 a vs g1 hs r1 => .inl ⟨_, ds.length, rfl, .inl ⟨vs, hs, r1.length.symm⟩, q I1 H1 _ g1 (.int _)⟩
theorem ca_all {d : D} {bs : List Bool} (hl : LD d (bs.map D.bl)) : Ca K (rAll K) [d] (.bl (bs.all id)) := fun I H us e r Q q => by
  cases r with
  | cons a b =>
    cases b
    obtain ⟨p, vs, rfl, hs, hr⟩ := a.l hl
    rw [rps_bls hr] at hs
    exact ⟨p, bs, rfl, ex_l e hs, q I H _ (Gr.refl e) (.bl _)⟩
theorem ca_any {d : D} {bs : List Bool} (hl : LD d (bs.map D.bl)) : Ca K (rAny K) [d] (.bl (bs.any id)) := fun I H us e r Q q => by
  cases r with
  | cons a b =>
    cases b
    obtain ⟨p, vs, rfl, hs, hr⟩ := a.l hl
    rw [rps_bls hr] at hs
    exact ⟨p, bs, rfl, ex_l e hs, q I H _ (Gr.refl e) (.bl _)⟩
theorem ca_max2 {i j : Int} : Ca K (fun xs H Q => ∃ i j, xs = [.int i, .int j] ∧ Q (.int (if j > i then j else i)) H) [.int i, .int j] (.int (if j > i then j else i)) := fun I H us e r Q q => by
  cases r with
  | cons a b =>
    cases a
    cases b with
    | cons b c =>
      cases b; cases c
      exact ⟨i, j, rfl, q I H _ (Gr.refl e) (.int _)⟩
theorem ca_min2 {i j : Int} : Ca K (fun xs H Q => ∃ i j, xs = [.int i, .int j] ∧ Q (.int (if j < i then j else i)) H) [.int i, .int j] (.int (if j < i then j else i)) := fun I H us e r Q q => by
  cases r with
  | cons a b =>
    cases a
    cases b with
    | cons b c =>
      cases b; cases c
      exact ⟨i, j, rfl, q I H _ (Gr.refl e) (.int _)⟩
/-- the built-in class of data -/
def tyD : D → String
  | .non => "NoneType"
  | .bl _ => "bool"
  | .int _ => "int"
  | .str _ => "str"
  | .lst _ => "list"
  | .fl _ => "list"
  | .tup _ => "tuple"
  | .dic _ _ => "dict"
  | _ => "?"
theorem tyx_of {I H : Hp} {v : V} {d : D} (e : Ex I H) (r : Rp K I v d) (h : tyD d ≠ "?") : TyX K H v (.type (tyD d)) := by
  cases r with
  | non => exact .base .non
  | bl b => exact .base (.bl b)
  | int b => exact .base (.int b)
  | str b => exact .base (.str b)
  | lst a r => exact .base (.lst (e _ _ a))
  | fl a r =>
    rcases a with (a | ⟨o, a⟩) | ⟨o, its, n, h1, h2, _⟩
    · exact .base (.lst (e _ _ a))
    · exact .base (.frz (e _ _ a))
    · exact .kList h1 h2
  | tup a r =>
    rcases a with (a | ⟨o, a⟩) | ⟨o, its, n, h1, h2, _⟩
    · exact .base (.tup (e _ _ a))
    · exact .fTuple (e _ _ a)
    · exact .kTuple h1 h2
  | dic a => exact .base (.dK (e _ _ a))
  | _ => exact absurd rfl h
theorem ca_isi {d : D} {n : String} {b : Bool} (h : tyD d ≠ "?") (hk : kitB (tyD d) n = some b) : Ca K (rIsi K) [d, .ty n] (.bl b) := fun I H us e r Q q => by
  cases r with
  | cons a r =>
    cases r with
    | cons c r =>
      cases r
      cases c
      exact ⟨_, _, _, _, b, rfl, .ty n, tyx_of e a h, kit_ty hk, q I H _ (Gr.refl e) (.bl _)⟩
theorem e_ty {n : String} : E K Γ (tC (.ty n)) (.ty n) := fun I σ H as e _ Q q => q I H _ (Gr.refl e) (.ty n)
theorem un_neg' {i : Int} : Un1 K (rU fun i => .int (-i)) (.int i) (.int (-i)) := fun I H u e r Q q => by
  cases r
  exact ⟨i, rfl, q I H _ (Gr.refl e) (.int _)⟩
/-! texts -/
def rJoin (K : PySem.W.Frag) : V → List V → Hp → VK → Prop := fun x xs H Q => ∃ a p, ∃ ys : List Str, x = .str a ∧ xs = [.ref p] ∧ (SqL K H p (ys.map V.str) ∨ SqT K H p (ys.map V.str)) ∧
      (ys.map (·.length)).sum + ys.length * a.length ≤ 16777216 ∧ Q (.str (Txt.join a ys)) H
theorem e_join {to te : TE} {a : Str} {ys : List Str} (ho : E K Γ to (.str a)) (h : C K Γ te (ys.map D.str)) (hl : (ys.map (·.length)).sum + ys.length * a.length ≤ 16777216) : E K Γ (tM1 (rJoin K) to te) (.str (Txt.join a ys)) := fun I σ H as e l Q q =>
  ho I σ H as e l _ fun I1 H1 v g1 r1 => by
    cases r1
    refine ⟨⟨a, rfl⟩, h I1 σ H1 as g1.ih (l.mono g1) _ fun I2 H2 p vs g2 hs r2 => ?_⟩
    rw [rps_strs r2] at hs
    exact ⟨a, p, ys, rfl, rfl, .inl hs, hl, q I2 H2 _ (g1.trans g2) (.str _)⟩
/-! chains -/
theorem e_chain {r r' : R2} {ta tb tc : TE} {x y z : D} {b b' : Bool} (ha : E K Γ ta x) (hb : E K Γ tb y) (hc : b = true → E K Γ tc z) (h1 : Bin K r x y (.bl b)) (h2 : b = true → Bin K r' y z (.bl b')) : E K Γ (tChain r r' ta tb tc) (.bl (b && b')) := fun I σ H as e l Q q =>
  ha I σ H as e l _ fun I1 H1 u g1 r1 => hb I1 σ H1 as g1.ih (l.mono g1) _ fun I2 H2 v g2 r2 => h1 I2 H2 u v g2.ih (r1.mono g2.i) r2 _ fun I3 H3 w g3 r3 => by
    cases r3
    refine ⟨b, rfl, ?_⟩
    have g := (g1.trans g2).trans g3
    cases b with
    | true =>
      refine hc rfl I3 σ H3 as g.ih (l.mono g) _ fun I4 H4 w g4 r4 => ?_
      exact h2 rfl I4 H4 v w g4.ih (r2.mono (g3.trans g4).i) r4 _ fun I5 H5 x g5 r5 => q I5 H5 x ((g.trans g4).trans g5) r5
    | false => exact q I3 H3 _ g (.bl false)
end
end G

namespace G
open PySem PySem.Spec L2
/-- where a def of the text stands -/
structure DefAt (K : PySem.W.Frag) (mg : Str → Option Value) (x qual : Str) (st : Stmt) (ps : List Str) : Prop where
  ex : ∃ f fd, Fun K x qual st f fd ∧ mg x = some (.ref f) ∧ Binds K fd ps []
/-- a def of the text that keeps a promise -/
structure Callee (P : Program) (w : World) (K : PySem.W.Frag) (mg : Str → Option Value) (base : Heap) (x : Str) (k : Nat) (ps : List Str) (R : List D → D → Prop) : Prop where
  ex : ∃ f fd, FnOk P w K mg base CX0 k f fd ps (spR K R) ∧ mg x = some (.ref f) ∧ PySem.W.keepIn K (.ref f) = true ∧ Binds K fd ps [] ∧ ∃ (oc : Value) (od : Option Addr) (osl : Array (Option Value)), K.lookup f = some ⟨oc, od, .func fd, osl⟩
section
variable {X : Cx} {x : Str} {j k : Nat} {ps : List Str} {R : List D → D → Prop} {p pos : Pos} {e : Expr} {es : List Expr} {t : TA}
theorem pe_callC (c : Callee X.prog X.w X.K X.mg X.base x k ps R) (hr : Room j X.A) (hk : k ≤ j) (hg : Gl X x) (ha : PA X (e :: es) t) (hdb : (x == ("__debug__" : Str)) = false := by decide)
    (he : starEach (e :: es) X.env = (false, eval e X.env) :: starEach es X.env := by rfl) (hpl : (backTo pos (starEach es X.env)).any (·.1) = false := by rfl) (hx : Passes CX0 X E0 := by exact pass0) :
    PE X (.Call (.Name x p) (e :: es) [] pos) (tCall (spR X.K R) [] E0 t) := by
  obtain ⟨f, fd, F, hm, kp, b, _⟩ := c.ex
  exact pe_call F (hr.mono hk) hg hm kp b .nil hx ha hdb he hpl
theorem pe_callC0 (c : Callee X.prog X.w X.K X.mg X.base x k ps R) (hr : Room j X.A) (hk : k ≤ j) (hg : Gl X x) (hdb : (x == ("__debug__" : Str)) = false := by decide) (hx : Passes CX0 X E0 := by exact pass0) :
    PE X (.Call (.Name x p) [] [] pos) (tCall (spR X.K R) [] E0 tNil) := by
  obtain ⟨f, fd, F, hm, kp, b, _⟩ := c.ex
  exact pe_call0 F (hr.mono hk) hg hm kp b .nil hx hdb
/-- a global that holds a value -/
def GlobIs (mg : Str → Option Value) (x : Str) (v : V) : Prop := ∃ u, mg x = some u ∧ RelV v u
theorem pe_gl {v : V} (h : GlobIs X.mg x v) (hg : Gl X x := by rfl) (hd : (x == ("__debug__" : Str)) = false := by decide) : PE X (.Name x pos) (tC v) := by
  obtain ⟨u, hm, r⟩ := h
  exact pe_glob hg hm r hd
end
theorem ok_def {P : Program} {w : World} {K : PySem.W.Frag} {mg : Str → Option Value} {base : Heap} {x qual : Str} {st : Stmt} {N ps : List Str} {k : Nat} {R : List D → D → Prop} (F : DefAt K mg x qual st ps) (S : FnScope N ps (defScope st)) (hn : ∀ ds d, R ds d → ds.length = ps.length)
    (hb : ∀ (f : Addr) (cdv : Value) (A : Around) (outer : List Env) (s : Shared) (H : Hp) (E : XK), Room k (A.deeper (PyProof.Rows.envOfC qual (defScope st) s.heap.objs.size f cdv)) →
      ∃ t, PSs (cxOf CX0 P w K mg base N qual (defScope st) f cdv A outer s H E).nox (defBody st) t ∧ ∀ (I H' : Hp) ds d, R ds d → B ⟨K, I, H', [], fun _ _ _ _ => False⟩ (slots N ds) t { nx := fun _ => d = .non, rt := fun e _ => e = d }) :
    Callee P w K mg base x (k + 1) ps R := by
  obtain ⟨f, fd, F1, hm, b⟩ := F.ex
  obtain ⟨oc, od, kV, doc, pm, an, cdv, ct, osl, rfl, lk, _⟩ := id F1.ex
  exact ⟨f, _, ok_of F1 S hn (hb f), hm, F1.kp, b, oc, od, osl, lk⟩
theorem Callee.fn {P : Program} {w : World} {K : PySem.W.Frag} {mg : Str → Option Value} {base : Heap} {x qual : Str} {st : Stmt} {ps : List Str} {k : Nat} {R : List D → D → Prop} {f : Addr} {fd : FuncData} (C : Callee P w K mg base x k ps R) (F : Fun K x qual st f fd) (hm : mg x = some (.ref f)) : FnOk P w K mg base CX0 k f fd ps (spR K R) := by
  obtain ⟨f', fd', FF, hm', _, _, oc, od, osl, lk⟩ := C.ex
  obtain ⟨oc2, od2, kV, doc, pm, an, cdv, ct, osl2, _, lk2, _⟩ := F.ex
  rw [hm] at hm'
  cases hm'
  rw [lk] at lk2
  cases lk2
  exact FF
def spLaw (K : PySem.W.Frag) : Sp := fun vs H Q _ => ∃ (a : Addr) (ns : List Int), vs = [.ref a] ∧ SqL K H a (ns.map V.int) ∧ ns.length ≤ 63 ∧ ∀ H', Q (.bl true) H'
/-- the law -/
theorem law_fn {P : Program} {w : World} {K : PySem.W.Frag} {mg : Str → Option Value} {base : Heap} {qual : Str} {st : Stmt} {ps : List Str} {k : Nat} {R : List D → D → Prop} {f : Addr} {fd : FuncData} (C : Callee P w K mg base "law" k ps R) (F : Fun K "law" qual st f fd) (hm : mg "law" = some (.ref f))
    (hR : ∀ ns : List Int, ns.length ≤ 63 → R [.fl (ns.map D.int)] (.bl true)) : FnOk P w K mg base CX0 k f fd ps (spLaw K) :=
  (C.fn F hm).imp fun vs H Q E h => by
    obtain ⟨a, ns, rfl, hs, hl, q⟩ := h
    exact ⟨H, [.fl (ns.map D.int)], .bl true, Ex.refl H, .cons (.fl hs rps_of_ints) .nil, hR ns hl, fun I' H' v _ r => by cases r; exact q H'⟩
def uLt : R2 := fun x y H Q => rI0 (fun i j => .bl (decide (i < j))) x y H Q ∨ (∃ i j : Str, x = .str i ∧ y = .str j ∧ Q (.bl (decide (i.cps.toList < j.cps.toList))) H)
theorem op_uLt {X : Cx} : OpR X (compareOp .Lt) uLt := op_or op_lt op_lt_str
def uLe : R2 := fun x y H Q => rI0 (fun i j => .bl (decide (i ≤ j))) x y H Q ∨ (∃ i j : Str, x = .str i ∧ y = .str j ∧ Q (.bl (!decide (j.cps.toList < i.cps.toList))) H)
theorem op_uLe {X : Cx} : OpR X (compareOp .LtE) uLe := op_or op_le op_le_str
def uGt : R2 := fun x y H Q => rI0 (fun i j => .bl (decide (j < i))) x y H Q ∨ (∃ i j : Str, x = .str i ∧ y = .str j ∧ Q (.bl (decide (j.cps.toList < i.cps.toList))) H)
theorem op_uGt {X : Cx} : OpR X (compareOp .Gt) uGt := op_or op_gt op_gt_str
def uGe : R2 := fun x y H Q => rI0 (fun i j => .bl (decide (j ≤ i))) x y H Q ∨ (∃ i j : Str, x = .str i ∧ y = .str j ∧ Q (.bl (!decide (i.cps.toList < j.cps.toList))) H)
theorem op_uGe {X : Cx} : OpR X (compareOp .GtE) uGe := op_or op_ge op_ge_str
section
variable {K : PySem.W.Frag}
theorem bin_lt {i j : Int} : Bin K uLt (.int i) (.int j) (.bl (decide (i < j))) := fun I H u v e r1 r2 Q q => by
  cases r1; cases r2
  exact .inl ⟨i, j, rfl, rfl, q I H _ (Gr.refl e) (.bl _)⟩
theorem bin_le {i j : Int} : Bin K uLe (.int i) (.int j) (.bl (decide (i ≤ j))) := fun I H u v e r1 r2 Q q => by
  cases r1; cases r2
  exact .inl ⟨i, j, rfl, rfl, q I H _ (Gr.refl e) (.bl _)⟩
theorem bin_gt {i j : Int} : Bin K uGt (.int i) (.int j) (.bl (decide (j < i))) := fun I H u v e r1 r2 Q q => by
  cases r1; cases r2
  exact .inl ⟨i, j, rfl, rfl, q I H _ (Gr.refl e) (.bl _)⟩
theorem bin_ge {i j : Int} : Bin K uGe (.int i) (.int j) (.bl (decide (j ≤ i))) := fun I H u v e r1 r2 Q q => by
  cases r1; cases r2
  exact .inl ⟨i, j, rfl, rfl, q I H _ (Gr.refl e) (.bl _)⟩
theorem bin_le_s {i j : Str} : Bin K uLe (.str i) (.str j) (.bl (!decide (j.cps.toList < i.cps.toList))) := fun I H u v e r1 r2 Q q => by
  cases r1; cases r2
  exact .inr ⟨i, j, rfl, rfl, q I H _ (Gr.refl e) (.bl _)⟩
theorem bin_lt_s {i j : Str} : Bin K uLt (.str i) (.str j) (.bl (decide (i.cps.toList < j.cps.toList))) := fun I H u v e r1 r2 Q q => by
  cases r1; cases r2
  exact .inr ⟨i, j, rfl, rfl, q I H _ (Gr.refl e) (.bl _)⟩
theorem bin_isN {d : D} {b : Bool} (h : ∀ I v, Rp K I v d → decide (v = .non) = b) : Bin K (fun x y H Q => y = .non ∧ Q (.bl (decide (x = .non))) H) d .non (.bl b) := fun I H u v e r1 r2 Q q => by
  cases r2
  exact ⟨rfl, by rw [h I u r1]; exact q I H _ (Gr.refl e) (.bl _)⟩
end
end G

namespace G
open PySem PySem.Spec L2
/-! isinstance -/
def isInt : D → Bool
  | .int _ => true
  | .bl _ => true
  | _ => false
def isBool : D → Bool
  | .bl _ => true
  | _ => false
def isStr : D → Bool
  | .str _ => true
  | _ => false
def isLst : D → Bool
  | .lst _ => true
  | .fl _ => true
  | _ => false
def isTup : D → Bool
  | .tup _ => true
  | _ => false
def isDic : D → Bool
  | .dic _ _ => true
  | _ => false
/-- data of a built-in class -/
def plain : D → Bool
  | .obj _ _ _ => false
  | .exn _ _ _ => false
  | .ty _ => false
  | .ref _ => false
  | _ => true
theorem ty_plain {d : D} (h : plain d = true) : tyD d ≠ "?" := by cases d <;> first | (cases h; done) | (simp [tyD])
section
variable {K : PySem.W.Frag} {Γ : Sl}
theorem ca_is_int {d : D} (h : plain d = true) : Ca K (rIsi K) [d, .ty "int"] (.bl (isInt d)) := by
  refine ca_isi (ty_plain h) ?_
  cases d <;> first | (cases h; done) | (simp only [tyD, isInt, isBool, isStr, isLst, isTup, isDic]; decide +kernel)
theorem ca_is_bool {d : D} (h : plain d = true) : Ca K (rIsi K) [d, .ty "bool"] (.bl (isBool d)) := by
  refine ca_isi (ty_plain h) ?_
  cases d <;> first | (cases h; done) | (simp only [tyD, isInt, isBool, isStr, isLst, isTup, isDic]; decide +kernel)
theorem ca_is_str {d : D} (h : plain d = true) : Ca K (rIsi K) [d, .ty "str"] (.bl (isStr d)) := by
  refine ca_isi (ty_plain h) ?_
  cases d <;> first | (cases h; done) | (simp only [tyD, isInt, isBool, isStr, isLst, isTup, isDic]; decide +kernel)
theorem ca_is_lst {d : D} (h : plain d = true) : Ca K (rIsi K) [d, .ty "list"] (.bl (isLst d)) := by
  refine ca_isi (ty_plain h) ?_
  cases d <;> first | (cases h; done) | (simp only [tyD, isInt, isBool, isStr, isLst, isTup, isDic]; decide +kernel)
theorem ca_is_tup {d : D} (h : plain d = true) : Ca K (rIsi K) [d, .ty "tuple"] (.bl (isTup d)) := by
  refine ca_isi (ty_plain h) ?_
  cases d <;> first | (cases h; done) | (simp only [tyD, isInt, isBool, isStr, isLst, isTup, isDic]; decide +kernel)
theorem ca_is_dic {d : D} (h : plain d = true) : Ca K (rIsi K) [d, .ty "dict"] (.bl (isDic d)) := by
  refine ca_isi (ty_plain h) ?_
  cases d <;> first | (cases h; done) | (simp only [tyD, isInt, isBool, isStr, isLst, isTup, isDic]; decide +kernel)
/-! comprehensions without a test, what they give by a function -/
theorem e_lcY {α β : Type} {xs : List α} {em : α → D} {f : α → β} {emb : β → D} {wi : TI} {g : TG} {te : TE} {vs : List Nat} (hs : Src K Γ wi (xs.map em)) (hl : xs.length ≤ 10000000)
    (ht : ∀ (i : Nat) (x : α), xs[i]? = some x → ∃ ws Γ1, Tgt K g (em x) ws (wipeG Γ vs) Γ1 ∧ (∀ j ∈ ws, j ∈ vs) ∧ E K Γ1 te (emb (f x))) : E K Γ (tLc wi g tYes te vs) (.lst ((xs.map f).map emb)) := by
  have := e_lc (p := fun _ => true) (f := fun x => emb (f x)) (tt := tYes) hs hl fun i x hx => by
    obtain ⟨ws, Γ1, a, b, c⟩ := ht i x hx
    exact ⟨ws, Γ1, a, b, t_yes, fun _ => c⟩
  have e : xs.filter (fun _ => true) = xs := List.filter_eq_self.mpr fun _ _ => rfl
  rw [e] at this
  rw [List.map_map]
  exact this
theorem e_lcF {α β : Type} {xs : List α} {em : α → D} {p : α → Bool} {f : α → β} {emb : β → D} {wi : TI} {g : TG} {tt : TT} {te : TE} {vs : List Nat} (hs : Src K Γ wi (xs.map em)) (hl : xs.length ≤ 10000000)
    (ht : ∀ (i : Nat) (x : α), xs[i]? = some x → ∃ ws Γ1, Tgt K g (em x) ws (wipeG Γ vs) Γ1 ∧ (∀ j ∈ ws, j ∈ vs) ∧ T K Γ1 tt (p x) ∧ (p x = true → E K Γ1 te (emb (f x)))) : E K Γ (tLc wi g tt te vs) (.lst (((xs.filter p).map f).map emb)) := by
  have := e_lc (p := p) (f := fun x => emb (f x)) hs hl ht
  rw [List.map_map]
  exact this
theorem src_u_l {te : TE} {d : D} {ds : List D} (h : E K Γ te d) (hl : LD d ds) : Src K Γ (fun σ H R => iList K te σ H R ∨ (fun σ H R => iTup K te σ H R ∨ iStr te σ H R) σ H R) ds := src_or1 (src_list h hl)
theorem src_u_t {te : TE} {ds : List D} (h : E K Γ te (.tup ds)) : Src K Γ (fun σ H R => iList K te σ H R ∨ (fun σ H R => iTup K te σ H R ∨ iStr te σ H R) σ H R) ds := src_or2 (src_or1 (src_tup h))
theorem src_u_s {te : TE} {z : Str} (h : E K Γ te (.str z)) : Src K Γ (fun σ H R => iList K te σ H R ∨ (fun σ H R => iTup K te σ H R ∨ iStr te σ H R) σ H R) (z.cps.toList.map fun c => .str ⟨#[c]⟩) := src_or2 (src_or2 (src_str h))
end

/-! the rules with K said ahead -/
section
variable {X : Cx} (K : PySem.W.Frag) (hK : X.K = K := by rfl)
include hK
theorem k_add : OpR X (binaryOp .Add) (uAdd K) := by subst hK; exact op_uAdd
theorem k_eq (hu : X.A.units + 64 < cLine) : OpR X (compareOp .Eq) (uEq K) := by subst hK; exact op_uEq hu
theorem k_ne (hu : X.A.units + 64 < cLine) : OpR X (compareOp .NotEq) (uNe K) := by subst hK; exact op_uNe hu
theorem k_in : OpR X (compareOp .In) (uIn K) := by subst hK; exact op_uIn
theorem k_ni : OpR X (compareOp .NotIn) (uNi K) := by subst hK; exact op_uNi
theorem k_sl : SlR X (uSl K) := by subst hK; exact sl_u
theorem k_ix : IxR X (rIx K) := by subst hK; exact ix_seq
theorem k_len : CallR X (.builtin "len") (uLen K) := by subst hK; exact cr_uLen
theorem k_isi : CallR X (.builtin "isinstance") (rIsi K) := by subst hK; exact call_isi
theorem k_all (hc : X.calm = true) : CallR X (.builtin "all") (rAll K) := by subst hK; exact cr_all hc
theorem k_any (hc : X.calm = true) : CallR X (.builtin "any") (rAny K) := by subst hK; exact cr_any hc
theorem k_sum (hc : X.calm = true) : CallR X (.builtin "sum") (rSum K) := by subst hK; exact cr_sum hc
theorem k_it {tg e : Expr} {te : TE} (he : PE X e te) : PI X tg e (fun σ H R => iList K te σ H R ∨ (fun σ H R => iTup K te σ H R ∨ iStr te σ H R) σ H R) := by subst hK; exact pi_u he
theorem k_enum {e : Expr} {ta : TA} {p pos tpos : Pos} {elts : List Expr} {kk : Nat} (hg : Gl X "enumerate") (hm : X.mg "enumerate" = none) (ha : PA X [e] ta) (hs : starEach [e] X.env = [(false, eval e X.env)] := by rfl) :
    PI X (.Tuple elts kk tpos) (.Call (.Name "enumerate" p) [e] [] pos) (iEnum K ta) := by subst hK; exact pi_enum hg hm ha hs
theorem k_zip {e e2 : Expr} {ta : TA} {p pos tpos : Pos} {elts : List Expr} {kk : Nat} (hg : Gl X "zip") (hm : X.mg "zip" = none) (ha : PA X [e, e2] ta)
    (hs : starEach [e, e2] X.env = (false, eval e X.env) :: starEach [e2] X.env := by rfl) (hpl : (backTo pos (starEach [e2] X.env)).any (·.1) = false := by rfl) :
    PI X (.Tuple elts kk tpos) (.Call (.Name "zip" p) [e, e2] [] pos) (iZip K ta) := by subst hK; exact pi_zip hg hm ha hs hpl
theorem k_reversed {tg e : Expr} {ta : TA} {p pos : Pos} (hg : Gl X "reversed") (hm : X.mg "reversed" = none) (ha : PA X [e] ta) (hs : starEach [e] X.env = [(false, eval e X.env)] := by rfl) : PI X tg (.Call (.Name "reversed" p) [e] [] pos) (iRev K ta) := by subst hK; exact pi_reversed hg hm ha hs
theorem k_tup {es : List Expr} {k : Nat} {t : TGs} {n : Nat} {pos : Pos} (hc : X.calm = true) (h : PGs X es t)
    (hn : (assignEach es X.env).length = n := by rfl) (hst : (assignEach es X.env).findIdx? (·.1) = none := by rfl) : PG X (.Tuple es k pos) (gTup K n t) := by subst hK; exact pg_tup hc h hn hst
theorem k_join {o e : Expr} {to te : TE} {apos pos : Pos} (ho : PE X o to) (he : PE X e te) (hs : starEach [e] X.env = [(false, eval e X.env)] := by rfl) (hbase : attributeBase o "join" X.env (eval o X.env) = eval o X.env := by rfl) (hline : (apos.endLine == pos.line) = true := by rfl) :
    PE X (.Call (.Attribute o "join" apos) [e] [] pos) (tM1 (rJoin K) to te) := by subst hK; exact pe_join ho he hs hbase hline
theorem k_bm {T : String} {name : Str} {id : String} {r : V → List V → Hp → VK → Prop} {o e : Expr} {es : List Expr} {to : TE} {t : TA} {apos cpos : Pos} (pa : PlainAttrs T) (slot : Slot T name id) (hty : typeOf (.builtin id) = pure (.type "method_descriptor")) (hm : MtR X id r) (ho : PE X o to) (ha : PA X (e :: es) t)
    (hbase : attributeBase o name X.env (eval o X.env) = eval o X.env := by rfl)
    (hfew : ((backTo cpos (starEach (e :: es) X.env)).all (fun x => !x.1) && (backToKw cpos (keywordEach [] X.env)).all (fun x => x.1.isSome)
      && decide ((e :: es).length + ([] : List Keyword).length + (if ([] : List Keyword).isEmpty then 0 else 1) < 30)) = true := by rfl)
    (hline : (apos.endLine == cpos.line) = true := by rfl) (hst : starEach (e :: es) X.env = (false, eval e X.env) :: starEach es X.env := by rfl) (hpl : (backTo cpos (starEach es X.env)).any (·.1) = false := by rfl) :
    PE X (.Call (.Attribute o name apos) (e :: es) [] cpos) (tBM K T r to t) := by subst hK; exact pe_bm pa slot hty hm ho ha hbase hfew hline hst hpl
theorem k_bm0 {T : String} {name : Str} {id : String} {r : V → List V → Hp → VK → Prop} {o : Expr} {to : TE} {apos cpos : Pos} (pa : PlainAttrs T) (slot : Slot T name id) (hty : typeOf (.builtin id) = pure (.type "method_descriptor")) (hm : MtR X id r) (ho : PE X o to)
    (hbase : attributeBase o name X.env (eval o X.env) = eval o X.env := by rfl) (hline : (apos.endLine == cpos.line) = true := by rfl) : PE X (.Call (.Attribute o name apos) [] [] cpos) (tBM0 K T r to) := by subst hK; exact pe_bm0 pa slot hty hm ho hbase hline
end
section
variable {X : Cx} {P : Program} {w : World} (K : PySem.W.Frag) {mg : Str → Option Value} {base : Heap} {x : Str} {j k : Nat} {ps : List Str} {R : List D → D → Prop} {p pos : Pos} {e : Expr} {es : List Expr} {t : TA}
theorem k_call (c : Callee P w K mg base x k ps R) (hr : Room j X.A) (hk : k ≤ j) (hg : Gl X x) (ha : PA X (e :: es) t) (hdb : (x == ("__debug__" : Str)) = false := by decide)
    (he : starEach (e :: es) X.env = (false, eval e X.env) :: starEach es X.env := by rfl) (hpl : (backTo pos (starEach es X.env)).any (·.1) = false := by rfl) (hx : Passes CX0 X E0 := by exact pass0)
    (hX : X.prog = P ∧ X.w = w ∧ X.K = K ∧ X.mg = mg ∧ X.base = base := by exact ⟨rfl, rfl, rfl, rfl, rfl⟩) :
    PE X (.Call (.Name x p) (e :: es) [] pos) (tCall (spR K R) [] E0 t) := by
  obtain ⟨rfl, rfl, rfl, rfl, rfl⟩ := hX
  exact pe_callC c hr hk hg ha hdb he hpl hx
theorem k_call0 (c : Callee P w K mg base x k ps R) (hr : Room j X.A) (hk : k ≤ j) (hg : Gl X x) (hdb : (x == ("__debug__" : Str)) = false := by decide) (hx : Passes CX0 X E0 := by exact pass0)
    (hX : X.prog = P ∧ X.w = w ∧ X.K = K ∧ X.mg = mg ∧ X.base = base := by exact ⟨rfl, rfl, rfl, rfl, rfl⟩) :
    PE X (.Call (.Name x p) [] [] pos) (tCall (spR K R) [] E0 tNil) := by
  obtain ⟨rfl, rfl, rfl, rfl, rfl⟩ := hX
  exact pe_callC0 c hr hk hg hdb hx
end
end G

namespace G
open PySem PySem.Spec L2
section
variable {K : PySem.W.Frag} {Γ : Sl} {c : Cz} {κ : Ks}
theorem bin_mod {i j : Int} (h : 0 < j) : Bin K (rI (fun _ j => j ≠ 0) fun i j => .int (i.fmod j)) (.int i) (.int j) (.int (i % j)) := by
  have e : i.fmod j = i % j := Int.fmod_eq_emod_of_nonneg i (Int.le_of_lt h)
  rw [← e]
  exact bin_I (g := fun i j => i.fmod j) (by omega)
theorem bin_div {i j : Int} (h : 0 < j) (hj : j < 2 ^ 64) : Bin K (rI CDivW fun i j => .int (i / j)) (.int i) (.int j) (.int (i / j)) := by
  refine bin_I (g := fun i j => i / j) ⟨h, ?_⟩
  have h2 : j.natAbs < 2 ^ 64 := by omega
  have h3 : j.natAbs ≠ 0 := by omega
  exact Nat.lt_trans ((Nat.log2_lt h3).mpr h2) (by decide)
theorem log2_64 {n : Nat} (h : n < 2 ^ 64) : n.log2 < 64 := by
  by_cases z : n = 0
  · subst z; decide
  · exact (Nat.log2_lt z).mpr h
theorem mul_ok {i j : Int} (hi : -(2 ^ 64) < i ∧ i < 2 ^ 64) (hj : -(2 ^ 64) < j ∧ j < 2 ^ 64) : i.natAbs.log2 + j.natAbs.log2 < 1000000 := by
  have a := log2_64 (n := i.natAbs) (by omega)
  have b := log2_64 (n := j.natAbs) (by omega)
  omega
theorem bin_mul64 {i j : Int} (hi : -(2 ^ 64) < i ∧ i < 2 ^ 64) (hj : -(2 ^ 64) < j ∧ j < 2 ^ 64) : Bin K uMul (.int i) (.int j) (.int (i * j)) := bin_mul (mul_ok hi hj)
theorem bin_pow {i j r : Int} (h : 0 ≤ j ∧ j ≤ 1000000 ∧ i.natAbs < 2 ^ 64) (e : i ^ j.toNat = r) : Bin K (rI CPow fun i j => .int (i ^ j.toNat)) (.int i) (.int j) (.int r) := by
  subst e
  exact bin_I (g := fun i j => i ^ j.toNat) h
theorem atI_nat' {α : Type} {xs : List α} {i : Int} {n : Nat} {x : α} (hi : i = n) (h : xs[n]? = some x) : atI xs i = some x := by
  rw [hi]; exact atI_nat h
theorem atI_get {α : Type} {xs : List α} {i : Int} (h0 : 0 ≤ i) (h1 : i < xs.length) : atI xs i = some (xs[i.toNat]'(by omega)) :=
  atI_nat' (n := i.toNat) (by omega) (List.getElem?_eq_getElem (by omega))
theorem atI_getD {α : Type} {xs : List α} {i : Int} (d : α) (h0 : 0 ≤ i) (h1 : i < xs.length) : atI xs i = some (xs.getD i.toNat d) := by
  refine atI_nat' (n := i.toNat) (by omega) ?_
  rw [List.getD_eq_getElem?_getD, List.getElem?_eq_getElem (by omega)]
  rfl
theorem sIx0 (n : Nat) : HT.sIx n 0 none = 0 := rfl
theorem sIxN (n d : Nat) : HT.sIx n d none = d := rfl
theorem sIxI {n d : Nat} {i : Int} (h : 0 ≤ i) : HT.sIx n d (some i) = min i.toNat n := by
  unfold HT.sIx
  simp only
  rw [if_neg (by omega)]
/-- the slots as they are written -/
theorem b_show {ts : TS} {Γ' : Sl} (e : Γ = Γ') (h : B c Γ' ts κ) : B c Γ ts κ := e ▸ h
/-- a def whose end is told -/
theorem b_ret_is {te : TE} {d e : D} (h : E c.K Γ te d) (h2 : d = e) (k : κ.rt e Γ) : B c Γ (tRet te) κ := b_ret (h2 ▸ h) k
end
/-! texts by their codes -/
theorem str_length (s : Str) : s.length = s.cps.toList.length := rfl
theorem app_codes (x y : Str) : (x ++ y).cps.toList = x.cps.toList ++ y.cps.toList := by
  show (x.cps ++ y.cps).toList = _
  exact Array.toList_append
theorem cutS_codes (z : Str) (lo hi : Option Int) : (cutS z lo hi).cps.toList = ((z.cps.toList.drop (HT.sIx z.length 0 lo)).take (HT.sIx z.length z.length hi - HT.sIx z.length 0 lo)) := rfl
/-! a loop that folds -/
section
variable {c : Cz} {Γ : Sl} {κ : Ks}
theorem b_fold {α : Type} {xs : List α} {em : α → D} {wi : TI} {g : TG} {tb : TS} (hs : Src c.K Γ wi (xs.map em)) {S : Type} (step : S → α → S) (P : Nat → S → Prop) (Γf : S → Sl) (s0 : S) (h0 : P 0 s0) (l0 : Le (Γf s0) Γ) (hP : ∀ (i : Nat) (s : S) (x : α), xs[i]? = some x → P i s → P (i + 1) (step s x))
    (ht : ∀ (i : Nat) (s : S) (x : α), xs[i]? = some x → P i s → ∃ ws Γ1, Tgt c.K g (em x) ws (Γf s) Γ1 ∧ B c Γ1 tb ⟨fun Γ' => Le (Γf (step s x)) Γ', κ.rt, fun _ => False, fun Γ' => Le (Γf (step s x)) Γ', κ.ex⟩)
    (hd : P xs.length (xs.foldl step s0) → κ.nx (Γf (xs.foldl step s0))) : B c Γ (tFor wi g tb) κ := by
  refine b_for hs (fun i s => s = (xs.take i).foldl step s0 ∧ P i s) Γf s0 ⟨rfl, h0⟩ l0 ?_ ?_
  · rintro i s d hd ⟨e, p⟩
    rw [List.getElem?_map] at hd
    obtain ⟨x, hx⟩ : ∃ x, xs[i]? = some x := by
      cases hx : xs[i]? with
      | none => rw [hx] at hd; cases hd
      | some x => exact ⟨x, rfl⟩
    rw [hx] at hd
    cases hd
    obtain ⟨ws, Γ1, tg, hb⟩ := ht i s x hx p
    have e2 : step s x = (xs.take (i + 1)).foldl step s0 := by
      rw [List.take_add_one, hx, List.foldl_append, ← e]; rfl
    exact ⟨ws, Γ1, tg, b_ks hb (fun Γ' h => ⟨_, ⟨e2, hP i s x hx p⟩, h⟩) (fun _ _ h => h) (fun _ h => h.elim) (fun Γ' h => ⟨_, ⟨e2, hP i s x hx p⟩, h⟩)⟩
  · rintro s ⟨e, p⟩
    rw [List.length_map] at e p
    rw [List.take_length] at e
    subst e
    exact hd p
/-- a loop that only looks: it leaves (returns) or goes on -/
theorem b_look {α : Type} {xs : List α} {em : α → D} {wi : TI} {g : TG} {tb : TS} (hs : Src c.K Γ wi (xs.map em)) (P : Nat → Prop) (Γf : Sl) (h0 : P 0) (l0 : Le Γf Γ)
    (ht : ∀ (i : Nat) (x : α), xs[i]? = some x → P i → ∃ ws Γ1, Tgt c.K g (em x) ws Γf Γ1 ∧ B c Γ1 tb ⟨fun Γ' => P (i + 1) ∧ Le Γf Γ', κ.rt, fun _ => False, fun Γ' => P (i + 1) ∧ Le Γf Γ', κ.ex⟩)
    (hd : P xs.length → κ.nx Γf) : B c Γ (tFor wi g tb) κ := by
  refine b_for hs (fun i (_ : Unit) => P i) (fun _ => Γf) () h0 l0 ?_ ?_
  · rintro i s d hd p
    rw [List.getElem?_map] at hd
    obtain ⟨x, hx⟩ : ∃ x, xs[i]? = some x := by
      cases hx : xs[i]? with
      | none => rw [hx] at hd; cases hd
      | some x => exact ⟨x, rfl⟩
    rw [hx] at hd
    cases hd
    obtain ⟨ws, Γ1, tg, hb⟩ := ht i x hx p
    exact ⟨ws, Γ1, tg, b_ks hb (fun Γ' h => ⟨(), h.1, h.2⟩) (fun _ _ h => h) (fun _ h => h.elim) (fun Γ' h => ⟨(), h.1, h.2⟩)⟩
  · rintro s p
    rw [List.length_map] at p
    exact hd p
end
/-! dicts written out -/
section
variable {K : PySem.W.Frag} {Γ : Sl}
theorem e_dnew : E K Γ tDNewK (.dic [] []) := fun I σ H as e l Q q => fun p hp => q _ _ _ (Gr.new e hp) (.dic (ks := []) (xs := []) upd_same rfl .nil)
def EP (K : PySem.W.Frag) (Γ : Sl) (trs : List (TE × TE)) (ks : List Key) (ds : List D) : Prop := ∀ (I : Hp) (σ : St) (H : Hp) (as : Nat → Addr), Ex I H → Lo K I σ H as Γ → ∀ Q : List (V × V) → Hp → Prop,
  (∀ I' H' (vs : List V), Gr [] I H I' H' → ks.length = vs.length → Rps K I' vs ds → Q ((ks.zip vs).map fun kv => (kV kv.1, kv.2)) H') → tPairs trs σ H Q
theorem ep_nil : EP K Γ [] [] [] := fun I σ H as e l Q q => q I H [] (Gr.refl e) rfl .nil
theorem ep_str {tk tv : TE} {trs : List (TE × TE)} {s : Str} {d : D} {ks : List Key} {ds : List D} (h1 : E K Γ tk (.str s)) (h2 : E K Γ tv d) (h3 : EP K Γ trs ks ds) : EP K Γ ((tk, tv) :: trs) (.inr s :: ks) (d :: ds) := fun I σ H as e l Q q =>
  h1 I σ H as e l _ fun I1 H1 v g1 r1 => h2 I1 σ H1 as g1.ih (l.mono g1) _ fun I2 H2 w g2 r2 => h3 I2 σ H2 as g2.ih (l.mono (g1.trans g2)) _ fun I3 H3 vs g3 hl r3 => by
    cases r1
    exact q I3 H3 (w :: vs) ((g1.trans g2).trans g3) (by simp [hl]) (.cons (r2.mono g3.i) r3)
theorem ep_int {tk tv : TE} {trs : List (TE × TE)} {s : Int} {d : D} {ks : List Key} {ds : List D} (h1 : E K Γ tk (.int s)) (h2 : E K Γ tv d) (h3 : EP K Γ trs ks ds) : EP K Γ ((tk, tv) :: trs) (.inl s :: ks) (d :: ds) := fun I σ H as e l Q q =>
  h1 I σ H as e l _ fun I1 H1 v g1 r1 => h2 I1 σ H1 as g1.ih (l.mono g1) _ fun I2 H2 w g2 r2 => h3 I2 σ H2 as g2.ih (l.mono (g1.trans g2)) _ fun I3 H3 vs g3 hl r3 => by
    cases r1
    exact q I3 H3 (w :: vs) ((g1.trans g2).trans g3) (by simp [hl]) (.cons (r2.mono g3.i) r3)
theorem putK_app {k : Key} {v : V} : ∀ {kvs : List (Key × V)}, k ∉ kvs.map (·.1) → putK kvs k v = kvs ++ [(k, v)] := fun {kvs} h => by
  refine putK_new _ ?_
  cases e : valV kvs k with
  | none => rfl
  | some u => exact absurd (valV_in e) h
theorem merge_nodup : ∀ (kvs acc : List (Key × V)), ((acc ++ kvs).map (·.1)).Nodup → mergeK acc kvs = acc ++ kvs
  | [], acc, _ => by simp [mergeK]
  | (k, v) :: r, acc, h => by
    have h1 : k ∉ acc.map (·.1) := fun z => by
      rw [List.map_append, List.nodup_append] at h
      exact h.2.2 k z k (by simp) rfl
    show mergeK (putK acc k v) r = _
    rw [putK_app h1, merge_nodup r _ (by simpa using h)]
    simp
theorem e_disp {trs : List (TE × TE)} {ks : List Key} {ds : List D} (h : EP K Γ trs ks ds) (hn : ks.Nodup) (hl : ks.length ≤ 15) : E K Γ (tDisp trs) (.dic ks ds) := fun I σ H as e l Q q => fun p hp => by
  have l1 : Lo K I σ (upd H p (.dK [])) as Γ := l.mono (Gr.junk e hp)
  refine h I σ (upd H p (.dK [])) as (e.trans (Ex.new hp)) l1 _ fun I1 H1 vs g1 hlen r1 => ?_
  have hp1 : H1 p = some (.dK []) := g1.ex _ _ upd_same
  have g : Gr [] I H I1 H1 := (Gr.junk e hp).trans g1
  have n1 : I1 p = none := g1.none_i (e.free hp) (by rw [upd_same]; exact nofun)
  refine ⟨hp1, ks.zip vs, rfl, by rw [List.length_zip]; omega, ?_⟩
  have hk : (ks.zip vs).map (·.1) = ks := by rw [List.map_fst_zip]; omega
  have em : mergeK [] (ks.zip vs) = ks.zip vs := by
    have := merge_nodup (ks.zip vs) [] (by rw [List.nil_append, hk]; exact hn)
    simpa using this
  rw [em]
  refine q _ _ _ ((g.mut n1 (.inl hp)).frz n1 hp upd_same) (.dic upd_same hlen (r1.mono (Ex.new n1)))
end
end G

namespace G
open PySem PySem.Spec L2
def rLo (K : PySem.W.Frag) : List V → Hp → VK → Prop := fun xs H Q => ∃ p ys, xs = [.ref p] ∧ (SqL K H p ys ∨ SqT K H p ys) ∧ ∀ l, H l = none → Q (.ref l) (upd H l (.lst ys))
def rTo (K : PySem.W.Frag) : List V → Hp → VK → Prop := fun xs H Q => ∃ p ys, xs = [.ref p] ∧ ((SqL K H p ys ∧ ∀ l, H l = none → Q (.ref l) (upd H l (.tup ys))) ∨ (SqT K H p ys ∧ Q (.ref p) H))
section
variable {X : Cx} (K : PySem.W.Frag) (hK : X.K = K := by rfl)
include hK
theorem k_list : CallR X (.type "list") (rLo K) := by subst hK; exact call_list_of
theorem k_tuple : CallR X (.type "tuple") (rTo K) := by subst hK; exact call_tuple_of
end
section
variable {K : PySem.W.Frag} {Γ : Sl}
theorem e_listC {te : TE} {ds : List D} (h : C K Γ te ds) : E K Γ (tCB (rLo K) (tCons te tNil)) (.lst ds) := fun I σ H as e l Q q =>
  h I σ H as e l _ fun I1 H1 a vs g1 hs r1 => ⟨a, vs, rfl, .inl hs, fun p hp => q _ _ _ (g1.trans (Gr.new g1.ih hp)) (.lst upd_same (r1.mono (Ex.new (g1.ih.free hp))))⟩
theorem ca_list {d : D} {ds : List D} (hl : LD d ds) : Ca K (rLo K) [d] (.lst ds) := fun I H us e r Q q => by
  cases r with
  | cons a b =>
    cases b
    obtain ⟨p, vs, rfl, hs, hr⟩ := a.l hl
    exact ⟨p, vs, rfl, .inl (ex_l e hs), fun l hp => q _ _ _ (Gr.new e hp) (.lst upd_same (hr.mono (Ex.new (e.free hp))))⟩
theorem ca_list_t {ds : List D} : Ca K (rLo K) [.tup ds] (.lst ds) := fun I H us e r Q q => by
  cases r with
  | cons a b =>
    cases b
    cases a with
    | tup hs hr => exact ⟨_, _, rfl, .inr (ex_t e hs), fun l hp => q _ _ _ (Gr.new e hp) (.lst upd_same (hr.mono (Ex.new (e.free hp))))⟩
theorem ca_tuple {d : D} {ds : List D} (hl : LD d ds) : Ca K (rTo K) [d] (.tup ds) := fun I H us e r Q q => by
  cases r with
  | cons a b =>
    cases b
    obtain ⟨p, vs, rfl, hs, hr⟩ := a.l hl
    exact ⟨p, vs, rfl, .inl ⟨ex_l e hs, fun l hp => q _ _ _ (Gr.new e hp) (.tup (.inl (.inl upd_same)) (hr.mono (Ex.new (e.free hp))))⟩⟩
theorem ca_tuple_t {ds : List D} : Ca K (rTo K) [.tup ds] (.tup ds) := fun I H us e r Q q => by
  cases r with
  | cons a b =>
    cases b
    cases a with
    | tup hs hr => exact ⟨_, _, rfl, .inr ⟨ex_t e hs, q I H _ (Gr.refl e) (.tup hs hr)⟩⟩
/-! data for == -/
def okS (x : Str) : Bool := PyData.strOk x
mutual
def okD : D → Bool
  | .non => true
  | .bl _ => true
  | .int _ => true
  | .str s => okS s
  | .lst ds => okDs ds
  | .fl ds => okDs ds
  | .tup ds => okDs ds
  | _ => false
def okDs : List D → Bool
  | [] => true
  | d :: ds => okD d && okDs ds
end
mutual
def depD : D → Nat
  | .lst ds => depDs ds + 1
  | .fl ds => depDs ds + 1
  | .tup ds => depDs ds + 1
  | _ => 0
def depDs : List D → Nat
  | [] => 0
  | d :: ds => max (depD d) (depDs ds)
end
mutual
theorem okD_isP : ∀ d : D, okD d = true → isP d = true
  | .non, _ => by simp [isP]
  | .bl _, _ => by simp [isP]
  | .int _, _ => by simp [isP]
  | .str _, _ => by simp [isP]
  | .lst ds, h => by rw [isP]; exact okDs_isPs ds (by simpa [okD] using h)
  | .fl ds, h => by rw [isP]; exact okDs_isPs ds (by simpa [okD] using h)
  | .tup ds, h => by rw [isP]; exact okDs_isPs ds (by simpa [okD] using h)
  | .dic _ _, h => by simp [okD] at h
  | .obj _ _ _, h => by simp [okD] at h
  | .ty _, h => by simp [okD] at h
  | .ref _, h => by simp [okD] at h
theorem okDs_isPs : ∀ ds : List D, okDs ds = true → isPs ds = true
  | [], _ => by simp [isPs]
  | d :: ds, h => by
    rw [okDs, Bool.and_eq_true] at h
    rw [isPs, Bool.and_eq_true]
    exact ⟨okD_isP d h.1, okDs_isPs ds h.2⟩
end
mutual
theorem okD_lay : ∀ d : D, okD d = true → (toP d).canLay0 = true ∧ (toP d).depth = depD d
  | .non, _ => by simp [toP, PyData.canLay0, PyData.depth, depD]
  | .bl _, _ => by simp [toP, PyData.canLay0, PyData.depth, depD]
  | .int _, _ => by simp [toP, PyData.canLay0, PyData.depth, depD]
  | .str s, h => by simp [toP, PyData.canLay0, PyData.depth, depD]; simpa [okD, okS] using h
  | .lst ds, h => by have := okDs_lay ds (by simpa [okD] using h); simp [toP, PyData.canLay0, PyData.depth, depD, this]
  | .fl ds, h => by have := okDs_lay ds (by simpa [okD] using h); simp [toP, PyData.canLay0, PyData.depth, depD, this]
  | .tup ds, h => by have := okDs_lay ds (by simpa [okD] using h); simp [toP, PyData.canLay0, PyData.depth, depD, this]
  | .dic _ _, h => by simp [okD] at h
  | .obj _ _ _, h => by simp [okD] at h
  | .ty _, h => by simp [okD] at h
  | .ref _, h => by simp [okD] at h
theorem okDs_lay : ∀ ds : List D, okDs ds = true → PyData.canLayAll0 (toPs ds) = true ∧ PyData.depthAll (toPs ds) = depDs ds
  | [], _ => by simp [toPs, PyData.canLayAll0, PyData.depthAll, depDs]
  | d :: ds, h => by
    rw [okDs, Bool.and_eq_true] at h
    have h1 := okD_lay d h.1
    have h2 := okDs_lay ds h.2
    simp [toPs, PyData.canLayAll0, PyData.depthAll, depDs, h1, h2]
end
theorem shaped_of {d : D} (h : okD d = true) (hd : depD d ≤ 64) : SeqAt.shaped (toP d) = true := by
  have := okD_lay d h
  unfold SeqAt.shaped
  rw [this.1, this.2]
  simpa using hd
/-- Python's == -/
def eqD (x y : D) : Bool := PyData.eqv (toP x) (toP y)
def eqDs (x y : List D) : Bool := PyData.eqvAll (toPs x) (toPs y)
theorem bin_eqG {x y : D} (hx : okD x = true) (hy : okD y = true) (dx : depD x ≤ 64) (dy : depD y ≤ 64) : Bin K (uEq K) x y (.bl (eqD x y)) := bin_eqD (okD_isP x hx) (okD_isP y hy) (shaped_of hx dx) (shaped_of hy dy)
theorem bin_neG {x y : D} (hx : okD x = true) (hy : okD y = true) (dx : depD x ≤ 64) (dy : depD y ≤ 64) : Bin K (uNe K) x y (.bl (!eqD x y)) := bin_neD (okD_isP x hx) (okD_isP y hy) (shaped_of hx dx) (shaped_of hy dy)
theorem eqDs_nil : eqDs [] [] = true := by simp [eqDs, toPs, PyData.eqvAll]
theorem eqDs_cons (x y : D) (xs ys : List D) : eqDs (x :: xs) (y :: ys) = (eqD x y && eqDs xs ys) := by simp [eqDs, eqD, toPs, PyData.eqvAll]
theorem eqDs_nc (y : D) (ys : List D) : eqDs [] (y :: ys) = false := by simp [eqDs, toPs, PyData.eqvAll]
theorem eqDs_cn (y : D) (ys : List D) : eqDs (y :: ys) [] = false := by simp [eqDs, toPs, PyData.eqvAll]
theorem eqD_int (i j : Int) : eqD (.int i) (.int j) = decide (i = j) := by simp [eqD, toP, PyData.eqv]; rfl
theorem eqD_str (i j : Str) : eqD (.str i) (.str j) = decide (i = j) := by
  simp only [eqD, toP, PyData.eqv]
  by_cases h : i = j
  · subst h; simp
  · rw [decide_eq_false h]; exact beq_eq_false_iff_ne.mpr h
theorem eqD_lst (x y : List D) : eqD (.lst x) (.lst y) = eqDs x y := by simp [eqD, toP, PyData.eqv, eqDs]
theorem eqD_tup (x y : List D) : eqD (.tup x) (.tup y) = eqDs x y := by simp [eqD, toP, PyData.eqv, eqDs]
theorem eqDs_map {α : Type} [DecidableEq α] (f : α → D) (h : ∀ a b, eqD (f a) (f b) = decide (a = b)) : ∀ xs ys : List α, eqDs (xs.map f) (ys.map f) = decide (xs = ys)
  | [], [] => by simp [eqDs_nil]
  | [], _ :: _ => by simp [eqDs_nc]
  | _ :: _, [] => by simp [eqDs_cn]
  | x :: xs, y :: ys => by
    rw [List.map_cons, List.map_cons, eqDs_cons, h, eqDs_map f h xs ys]
    by_cases a : x = y <;> by_cases b : xs = ys <;> simp [a, b]
theorem eqDs_strs (xs ys : List Str) : eqDs (xs.map D.str) (ys.map D.str) = decide (xs = ys) := eqDs_map D.str eqD_str xs ys
theorem eqDs_ints (xs ys : List Int) : eqDs (xs.map D.int) (ys.map D.int) = decide (xs = ys) := eqDs_map D.int eqD_int xs ys
theorem okDs_strs {xs : List Str} (h : ∀ x ∈ xs, okS x = true) : okDs (xs.map D.str) = true := by
  induction xs with
  | nil => simp [okDs]
  | cons x xs ih => simp [okDs, okD, h x (by simp)]; exact ih fun y hy => h y (List.mem_cons_of_mem _ hy)
theorem depDs_strs (xs : List Str) : depDs (xs.map D.str) = 0 := by
  induction xs with
  | nil => simp [depDs]
  | cons x xs ih => simp [depDs, depD, ih]
theorem okS_of {x : Str} (h : ∀ c ∈ x.cps.toList, c < 1114112) : okS x = true := by
  unfold okS PyData.strOk
  rw [Array.all_eq_true_iff_forall_mem]
  intro c hc
  simpa using h c (by simpa using hc)
end
end G

namespace G
open PySem PySem.Spec L2
/-! ### going on: te gives some d of which k holds -/
/-- who evaluates: the written part, what is wished of an exception, which exceptions may leave -/
structure Xz where
  K : PySem.W.Frag
  W : WX
  x : Addr → List Str → List D → Prop
/-- no exception leaves -/
abbrev zNo (K : PySem.W.Frag) : Xz := ⟨K, fun _ _ _ _ => False, fun _ _ _ => False⟩
def XOk (z : Xz) (I H : Hp) (σ : St) : Prop := ∀ I' H' C ns ds dx, z.x C ns ds → Gr [] I H I' H' → XdAt z.K I' H' H dx ns ds → z.W (.ref C) (some dx) σ H'
theorem XdAt.back {K : PySem.W.Frag} {I H H0 H1 : Hp} {dx : Addr} {ns : List Str} {ds : List D} (x : XdAt K I H H1 dx ns ds) (e : ∀ a, H0 a ≠ none → H1 a ≠ none) : XdAt K I H H0 dx ns ds :=
  ⟨x.at_, x.ni, by
    cases q : H0 dx with
    | none => rfl
    | some o => exact absurd x.n0 (e dx (by rw [q]; exact nofun))⟩
theorem XOk.mono {z : Xz} {I H I1 H1 : Hp} {σ : St} (h : XOk z I H σ) (g : Gr [] I H I1 H1) : XOk z I1 H1 σ := fun I' H' C ns ds dx hx g' hd => h I' H' C ns ds dx hx (g.trans g') (hd.back g.th)
theorem XOk.no {K : PySem.W.Frag} {I H : Hp} {σ : St} : XOk (zNo K) I H σ := fun _ _ _ _ _ _ h => h.elim
section
variable (z : Xz)
def EN (Γ : Sl) (te : TE) (k : D → Prop) : Prop := ∀ (I : Hp) (σ : St) (H : Hp) (as : Nat → Addr), Ex I H → Lo z.K I σ H as Γ → XOk z I H σ → ∀ Q : VK, (∀ I' H' v d, k d → Gr [] I H I' H' → Rp z.K I' v d → Q v H') → te σ H Q
/-- te gives a list of ds; the list itself may be one that changes -/
def CN (Γ : Sl) (te : TE) (k : List D → Prop) : Prop := ∀ (I : Hp) (σ : St) (H : Hp) (as : Nat → Addr), Ex I H → Lo z.K I σ H as Γ → XOk z I H σ → ∀ Q : VK, (∀ I' H' a vs ds, k ds → Gr [] I H I' H' → SqL z.K H' a vs → Rps z.K I' vs ds → Q (.ref a) H') → te σ H Q
def EAN (Γ : Sl) (ta : TA) (k : List D → Prop) : Prop := ∀ (I : Hp) (σ : St) (H : Hp) (as : Nat → Addr), Ex I H → Lo z.K I σ H as Γ → XOk z I H σ → ∀ Q : List V → Hp → Prop, (∀ I' H' vs ds, k ds → Gr [] I H I' H' → Rps z.K I' vs ds → Q vs H') → ta σ H Q
def TN (Γ : Sl) (tt : TT) (k : Bool → Prop) : Prop := ∀ (I : Hp) (σ : St) (H : Hp) (as : Nat → Addr), Ex I H → Lo z.K I σ H as Γ → XOk z I H σ → ∀ Q : Bool → Hp → Prop, (∀ I' H' b, k b → Gr [] I H I' H' → Q b H') → tt σ H Q
def EON (Γ : Sl) (to : TO) (k : Option Int → Prop) : Prop := ∀ (I : Hp) (σ : St) (H : Hp) (as : Nat → Addr), Ex I H → Lo z.K I σ H as Γ → XOk z I H σ → ∀ Q : Option Int → Hp → Prop, (∀ I' H' o, k o → Gr [] I H I' H' → Q o H') → to σ H Q
def SN (Γ : Sl) (wi : TI) (k : List D → Prop) : Prop := ∀ (I : Hp) (σ : St) (H : Hp) (as : Nat → Addr), Ex I H → Lo z.K I σ H as Γ → XOk z I H σ → ∀ R : It → Hp → Prop, (∀ I' H' J xs, k xs → Gr [] I H I' H' → IsW z.K I' J xs → R J H') → wi σ H R
end
section
variable {ζ : Xz} {K : PySem.W.Frag} {Γ : Sl} {te ta tb : TE} {k k' : D → Prop} {d x y : D} {ds : List D}
theorem E.n (h : E ζ.K Γ te d) (hk : k d) : EN ζ Γ te k := fun I σ H as e l _ Q q => h I σ H as e l Q fun I' H' v g r => q I' H' v d hk g r
theorem EN.imp (h : EN ζ Γ te k) (hk : ∀ d, k d → k' d) : EN ζ Γ te k' := fun I σ H as e l zz Q q => h I σ H as e l zz Q fun I' H' v d hd g r => q I' H' v d (hk d hd) g r
theorem EN.e (h : EN (zNo K) Γ te (fun x => x = d)) : E K Γ te d := fun I σ H as e l Q q => h I σ H as e l XOk.no Q fun I' H' v x hx g r => by subst hx; exact q I' H' v g r
theorem T.n {tt : TT} {b : Bool} {k : Bool → Prop} (h : T ζ.K Γ tt b) (hk : k b) : TN ζ Γ tt k := fun I σ H as e l _ Q q => h I σ H as e l Q fun I' H' g => q I' H' b hk g
theorem TN.t {tt : TT} {b : Bool} (h : TN (zNo K) Γ tt (fun x => x = b)) : T K Γ tt b := fun I σ H as e l Q q => h I σ H as e l XOk.no Q fun I' H' x hx g => by subst hx; exact q I' H' g
theorem C.n {k : List D → Prop} (h : C ζ.K Γ te ds) (hk : k ds) : CN ζ Γ te k := fun I σ H as e l _ Q q => h I σ H as e l Q fun I' H' a vs g hs r => q I' H' a vs ds hk g hs r
theorem Src.n {wi : TI} {k : List D → Prop} (h : Src ζ.K Γ wi ds) (hk : k ds) : SN ζ Γ wi k := fun I σ H as e l _ Q q => h I σ H as e l Q fun I' H' J g w => q I' H' J ds hk g w
theorem en_var {i : Nat} (h : Γ[i]? = some (some (.im d))) (hk : k d) : EN ζ Γ (tVar i) k := (e_var h).n hk
theorem en_int {i : Int} (hk : k (.int i)) : EN ζ Γ (tC (.int i)) k := e_int.n hk
theorem en_str {i : Str} (hk : k (.str i)) : EN ζ Γ (tC (.str i)) k := e_str.n hk
theorem en_bl {i : Bool} (hk : k (.bl i)) : EN ζ Γ (tC (.bl i)) k := e_bl.n hk
theorem en_non (hk : k .non) : EN ζ Γ (tC .non) k := e_non.n hk
theorem en_ty {n : String} (hk : k (.ty n)) : EN ζ Γ (tC (.ty n)) k := e_ty.n hk
/-- a value that stands -/
theorem en_const {v : V} (h : ∀ I, Rp ζ.K I v d) (hk : k d) : EN ζ Γ (tC v) k := fun I σ H as e l zz Q q => q I H v d hk (Gr.refl e) (h I)
theorem en_op {r : R2} (h : EN ζ Γ ta fun x => EN ζ Γ tb fun y => ∃ d, Bin ζ.K r x y d ∧ k d) : EN ζ Γ (tOp r ta tb) k := fun I σ H as e l zz Q q =>
  h I σ H as e l zz _ fun I1 H1 v x h1 g1 r1 => h1 I1 σ H1 as g1.ih (l.mono g1) (zz.mono g1) _ fun I2 H2 w y h2 g2 r2 => by
    obtain ⟨d, hb, hk⟩ := h2
    exact hb I2 H2 v w g2.ih (r1.mono g2.i) r2 Q fun I3 H3 z g3 r3 => q I3 H3 z d hk ((g1.trans g2).trans g3) r3
theorem en_un {r : V → Hp → VK → Prop} (h : EN ζ Γ ta fun x => ∃ d, Un1 ζ.K r x d ∧ k d) : EN ζ Γ (tUn r ta) k := fun I σ H as e l zz Q q =>
  h I σ H as e l zz _ fun I1 H1 v x h1 g1 r1 => by
    obtain ⟨d, hb, hk⟩ := h1
    exact hb I1 H1 v g1.ih r1 Q fun I3 H3 z g3 r3 => q I3 H3 z d hk (g1.trans g3) r3
theorem ean_nil {k : List D → Prop} (hk : k []) : EAN ζ Γ tNil k := fun I σ H as e _ _ Q q => q I H _ [] hk (Gr.refl e) .nil
theorem ean_cons {k : List D → Prop} {tr : TA} (h : EN ζ Γ ta fun x => EAN ζ Γ tr fun xs => k (x :: xs)) : EAN ζ Γ (tCons ta tr) k := fun I σ H as e l zz Q q =>
  h I σ H as e l zz _ fun I1 H1 v x h1 g1 r1 => h1 I1 σ H1 as g1.ih (l.mono g1) (zz.mono g1) _ fun I2 H2 vs xs h2 g2 r2 => q I2 H2 _ _ h2 (g1.trans g2) (.cons (r1.mono g2.i) r2)
theorem en_cb {r : List V → Hp → VK → Prop} {ta : TA} (h : EAN ζ Γ ta fun xs => ∃ d, Ca ζ.K r xs d ∧ k d) : EN ζ Γ (tCB r ta) k := fun I σ H as e l zz Q q =>
  h I σ H as e l zz _ fun I1 H1 v x h1 g1 r1 => by
    obtain ⟨d, hb, hk⟩ := h1
    exact hb I1 H1 v g1.ih r1 Q fun I3 H3 z g3 r3 => q I3 H3 z d hk (g1.trans g3) r3
theorem EA.n {ta : TA} {k : List D → Prop} (h : EA ζ.K Γ ta ds) (hk : k ds) : EAN ζ Γ ta k := fun I σ H as e l _ Q q => h I σ H as e l Q fun I' H' v g r => q I' H' v ds hk g r
theorem EAN.ea {ta : TA} (h : EAN (zNo K) Γ ta (fun x => x = ds)) : EA K Γ ta ds := fun I σ H as e l Q q => h I σ H as e l XOk.no Q fun I' H' v x hx g r => by subst hx; exact q I' H' v g r
theorem en_tup {ta : TA} (h : EAN ζ Γ ta fun xs => xs.length ≤ sizeLine ∧ k (.tup xs)) : EN ζ Γ (tTup ta) k := fun I σ H as e l zz Q q =>
  h I σ H as e l zz _ fun I1 H1 vs ds h1 g1 r1 => ⟨by rw [r1.length]; exact h1.1, fun p hp => q _ _ _ _ h1.2 (g1.trans (Gr.new g1.ih hp)) (.tup (.inl (.inl upd_same)) (r1.mono (Ex.new (g1.ih.free hp))))⟩
theorem en_lst {ta : TA} (h : EAN ζ Γ ta fun xs => xs.length ≤ sizeLine ∧ k (.lst xs)) : EN ζ Γ (tLst ta) k := fun I σ H as e l zz Q q =>
  h I σ H as e l zz _ fun I1 H1 vs ds h1 g1 r1 => ⟨by rw [r1.length]; exact h1.1, fun p hp => q _ _ _ _ h1.2 (g1.trans (Gr.new g1.ih hp)) (.lst upd_same (r1.mono (Ex.new (g1.ih.free hp))))⟩
theorem en_if {t : TT} (h : TN ζ Γ t fun b => (b = true → EN ζ Γ ta k) ∧ (b = false → EN ζ Γ tb k)) : EN ζ Γ (tIf t ta tb) k := fun I σ H as e l zz Q q =>
  h I σ H as e l zz _ fun I1 H1 b h1 g1 => by
    cases b with
    | true => exact h1.1 rfl I1 σ H1 as g1.ih (l.mono g1) (zz.mono g1) Q fun I2 H2 v d hd g2 r2 => q I2 H2 v d hd (g1.trans g2) r2
    | false => exact h1.2 rfl I1 σ H1 as g1.ih (l.mono g1) (zz.mono g1) Q fun I2 H2 v d hd g2 r2 => q I2 H2 v d hd (g1.trans g2) r2
theorem tn_test {k : Bool → Prop} (h : EN ζ Γ te fun d => ∃ b, d = .bl b ∧ k b) : TN ζ Γ (tTest te) k := fun I σ H as e l zz Q q => h I σ H as e l zz _ fun I1 H1 v d hd g1 r1 => by
  obtain ⟨b, rfl, hk⟩ := hd
  cases r1
  exact ⟨b, rfl, q I1 H1 b hk g1⟩
theorem tn_b {k : Bool → Prop} (h : EN ζ Γ te fun d => ∃ b, d = .bl b ∧ k b) : TN ζ Γ (tB te) k := fun I σ H as e l zz Q q => h I σ H as e l zz _ fun I1 H1 v d hd g1 r1 => by
  obtain ⟨b, rfl, hk⟩ := hd
  cases r1
  exact ⟨b, rfl, q I1 H1 b hk g1⟩
theorem tn_not {k : Bool → Prop} {t : TT} (h : TN ζ Γ t fun b => k (!b)) : TN ζ Γ (tNot t) k := fun I σ H as e l zz Q q => h I σ H as e l zz _ fun I1 H1 b hb g1 => q I1 H1 _ hb g1
theorem tn_and {k : Bool → Prop} {t u : TT} (h : TN ζ Γ t fun a => (a = true → TN ζ Γ u k) ∧ (a = false → k false)) : TN ζ Γ (tAnd t u) k := fun I σ H as e l zz Q q => h I σ H as e l zz _ fun I1 H1 a h1 g1 => by
  cases a with
  | true => exact h1.1 rfl I1 σ H1 as g1.ih (l.mono g1) (zz.mono g1) Q fun I2 H2 b hb g2 => q I2 H2 b hb (g1.trans g2)
  | false => exact q I1 H1 false (h1.2 rfl) g1
theorem tn_or {k : Bool → Prop} {t u : TT} (h : TN ζ Γ t fun a => (a = true → k true) ∧ (a = false → TN ζ Γ u k)) : TN ζ Γ (tOr t u) k := fun I σ H as e l zz Q q => h I σ H as e l zz _ fun I1 H1 a h1 g1 => by
  cases a with
  | true => exact q I1 H1 true (h1.1 rfl) g1
  | false => exact h1.2 rfl I1 σ H1 as g1.ih (l.mono g1) (zz.mono g1) Q fun I2 H2 b hb g2 => q I2 H2 b hb (g1.trans g2)
theorem tn_yes {k : Bool → Prop} (h : k true) : TN ζ Γ tYes k := fun I σ H as e l zz Q q => q I H true h (Gr.refl e)
theorem en_andV (h : EN ζ Γ ta fun x => ∃ a, x = .bl a ∧ (a = true → EN ζ Γ tb k) ∧ (a = false → k (.bl false))) : EN ζ Γ (tAndV ta tb) k := fun I σ H as e l zz Q q => h I σ H as e l zz _ fun I1 H1 v x h1 g1 r1 => by
  obtain ⟨a, rfl, ht, hf⟩ := h1
  cases r1
  refine ⟨a, rfl, ?_⟩
  cases a with
  | true => exact ht rfl I1 σ H1 as g1.ih (l.mono g1) (zz.mono g1) Q fun I2 H2 w d hd g2 r2 => q I2 H2 w d hd (g1.trans g2) r2
  | false => exact q I1 H1 _ _ (hf rfl) g1 (.bl false)
theorem en_orV (h : EN ζ Γ ta fun x => ∃ a, x = .bl a ∧ (a = true → k (.bl true)) ∧ (a = false → EN ζ Γ tb k)) : EN ζ Γ (tOrV ta tb) k := fun I σ H as e l zz Q q => h I σ H as e l zz _ fun I1 H1 v x h1 g1 r1 => by
  obtain ⟨a, rfl, ht, hf⟩ := h1
  cases r1
  refine ⟨a, rfl, ?_⟩
  cases a with
  | true => exact q I1 H1 _ _ (ht rfl) g1 (.bl true)
  | false => exact hf rfl I1 σ H1 as g1.ih (l.mono g1) (zz.mono g1) Q fun I2 H2 w d hd g2 r2 => q I2 H2 w d hd (g1.trans g2) r2
theorem en_notV (h : EN ζ Γ ta fun x => ∃ a, x = .bl a ∧ k (.bl (!a))) : EN ζ Γ (tNotV ta) k := fun I σ H as e l zz Q q => h I σ H as e l zz _ fun I1 H1 v x h1 g1 r1 => by
  obtain ⟨a, rfl, hk⟩ := h1
  cases r1
  exact ⟨a, rfl, q I1 H1 _ _ hk g1 (.bl _)⟩
theorem en_chain {r r' : R2} {tc : TE} (h : EN ζ Γ ta fun x => EN ζ Γ tb fun y => ∃ b, Bin ζ.K r x y (.bl b) ∧ (b = true → EN ζ Γ tc fun z => ∃ d, Bin ζ.K r' y z d ∧ k d) ∧ (b = false → k (.bl false))) : EN ζ Γ (tChain r r' ta tb tc) k := fun I σ H as e l zz Q q =>
  h I σ H as e l zz _ fun I1 H1 u x h1 g1 r1 => h1 I1 σ H1 as g1.ih (l.mono g1) (zz.mono g1) _ fun I2 H2 v y h2 g2 r2 => by
    obtain ⟨b, hb, ht, hf⟩ := h2
    refine hb I2 H2 u v g2.ih (r1.mono g2.i) r2 _ fun I3 H3 w g3 r3 => ?_
    cases r3
    refine ⟨b, rfl, ?_⟩
    have g := (g1.trans g2).trans g3
    cases b with
    | true =>
      refine ht rfl I3 σ H3 as g.ih (l.mono g) (zz.mono g) _ fun I4 H4 w z h4 g4 r4 => ?_
      obtain ⟨d, hd, hk⟩ := h4
      exact hd I4 H4 v w g4.ih (r2.mono (g3.trans g4).i) r4 _ fun I5 H5 x g5 r5 => q I5 H5 x d hk ((g.trans g4).trans g5) r5
    | false => exact q I3 H3 _ _ (hf rfl) g (.bl false)
/-! slices, lists that may change -/
theorem cn_var {i : Nat} {k : List D → Prop} (h : Γ[i]? = some (some (.mu (.lst ds)))) (hk : k ds) : CN ζ Γ (tVar i) k := (c_var h).n hk
theorem cn_e {k : List D → Prop} (h : EN ζ Γ te fun d => ∃ ds, LD d ds ∧ k ds) : CN ζ Γ te k := fun I σ H as e l zz Q q => h I σ H as e l zz _ fun I1 H1 v d hd g r => by
  obtain ⟨ds, hl, hk⟩ := hd
  obtain ⟨a, vs, rfl, hs, hr⟩ := r.l hl
  exact q I1 H1 _ _ _ hk g (ex_l g.ih hs) hr
theorem eon_none {k : Option Int → Prop} (h : k none) : EON ζ Γ tNoPart k := fun I σ H as e l zz Q q => q I H none h (Gr.refl e)
theorem eon_some {k : Option Int → Prop} (h : EN ζ Γ te fun d => ∃ i, d = .int i ∧ k (some i)) : EON ζ Γ (tPart te) k := fun I σ H as e l zz Q q => h I σ H as e l zz _ fun I1 H1 v d hd g1 r1 => by
  obtain ⟨i, rfl, hk⟩ := hd
  cases r1
  exact ⟨i, rfl, q I1 H1 _ hk g1⟩
/-- what a slice gives -/
def SlD : D → Option Int → Option Int → D → Prop
  | .lst ds, lo, hi, d => d = .lst (cutD ds lo hi)
  | .fl ds, lo, hi, d => d = .lst (cutD ds lo hi)
  | .tup ds, lo, hi, d => d = .tup (cutD ds lo hi)
  | .str z, lo, hi, d => d = .str (cutS z lo hi) ∧ z.length ≤ sizeLine
  | _, _, _, _ => False
theorem en_sl {tl th : TO} (h : EN ζ Γ te fun x => EON ζ Γ tl fun lo => EON ζ Γ th fun hi => ∃ d, SlD x lo hi d ∧ k d) : EN ζ Γ (tSl (uSl ζ.K) te tl th) k := fun I σ H as e l zz Q q =>
  h I σ H as e l zz _ fun I1 H1 v x h1 g1 r1 => h1 I1 σ H1 as g1.ih (l.mono g1) (zz.mono g1) _ fun I2 H2 lo h2 g2 => h2 I2 σ H2 as g2.ih (l.mono (g1.trans g2)) (zz.mono (g1.trans g2)) _ fun I3 H3 hi h3 g3 => by
    obtain ⟨d, hs, hk⟩ := h3
    have g := (g1.trans g2).trans g3
    have rr := r1.mono (g2.trans g3).i
    have lists : ∀ ds, LD x ds → d = .lst (cutD ds lo hi) → uSl ζ.K v lo hi H3 Q := fun ds hl hd => by
      obtain ⟨a, vs, rfl, hq, hr⟩ := rr.l hl
      subst hd
      exact .inl ⟨a, vs, rfl, ex_l g.ih hq, fun p hp => q _ _ _ _ hk (g.trans (Gr.new g.ih hp)) (.lst upd_same ((rps_cut hr).mono (Ex.new (g.ih.free hp))))⟩
    cases x with
    | lst ds => exact lists ds .lst hs
    | fl ds => exact lists ds .fl hs
    | tup ds =>
      have hd : d = .tup (cutD ds lo hi) := hs
      subst hd
      cases rr with
      | @tup a vs _ hq hr =>
        refine .inr (.inl ⟨a, vs, rfl, ex_t g.ih hq, fun hw => ?_, fun _ p hp => ?_⟩)
        · have e1 : cutD ds lo hi = ds := by
            unfold cutD
            rw [← hr.length, hw.1, hw.2, List.drop_zero, Nat.sub_zero, hr.length]
            exact List.take_length
          rw [e1] at hk
          exact q I3 H3 _ _ hk g (.tup hq hr)
        · exact q _ _ _ _ hk (g.trans (Gr.new g.ih hp)) (.tup (.inl (.inl upd_same)) ((rps_cut hr).mono (Ex.new (g.ih.free hp))))
    | str z =>
      obtain ⟨hd, hz⟩ := (show d = .str (cutS z lo hi) ∧ z.length ≤ sizeLine from hs)
      subst hd
      cases rr
      exact .inr (.inr ⟨z, rfl, hz, q I3 H3 _ _ hk g (.str _)⟩)
    | _ => exact (show False from hs).elim
theorem en_slC {tl th : TO} (h : CN ζ Γ te fun ds => EON ζ Γ tl fun lo => EON ζ Γ th fun hi => k (.lst (cutD ds lo hi))) : EN ζ Γ (tSl (uSl ζ.K) te tl th) k := fun I σ H as e l zz Q q =>
  h I σ H as e l zz _ fun I1 H1 a vs ds h1 g1 hs r1 => h1 I1 σ H1 as g1.ih (l.mono g1) (zz.mono g1) _ fun I2 H2 lo h2 g2 => h2 I2 σ H2 as g2.ih (l.mono (g1.trans g2)) (zz.mono (g1.trans g2)) _ fun I3 H3 hi h3 g3 => by
    refine .inl ⟨a, vs, rfl, ex_l (g2.trans g3).ex hs, fun p hp => ?_⟩
    have g := (g1.trans g2).trans g3
    exact q _ _ _ _ h3 (g.trans (Gr.new g.ih hp)) (.lst upd_same ((rps_cut (r1.mono (g2.trans g3).i)).mono (Ex.new (g.ih.free hp))))
theorem en_ixC (h : CN ζ Γ ta fun ds => EN ζ Γ tb fun y => ∃ i d, y = .int i ∧ atI ds i = some d ∧ k d) : EN ζ Γ (tOp (rIx ζ.K) ta tb) k := fun I σ H as e l zz Q q =>
  h I σ H as e l zz _ fun I1 H1 a vs ds h1 g1 hs r1 => h1 I1 σ H1 as g1.ih (l.mono g1) (zz.mono g1) _ fun I2 H2 w y h2 g2 r2 => by
    obtain ⟨i, d, rfl, hd, hk⟩ := h2
    cases r2
    obtain ⟨w, hw, rw'⟩ := rps_at r1 hd
    exact .inl ⟨a, vs, i, w, rfl, rfl, ex_l g2.ex hs, hw, q I2 H2 w d hk (g1.trans g2) (rw'.mono g2.i)⟩
theorem en_lenC (h : CN ζ Γ te fun ds => k (.int ds.length)) : EN ζ Γ (tCB (uLen ζ.K) (tCons te tNil)) k := fun I σ H as e l zz Q q =>
  h I σ H as e l zz _ fun I1 H1 a vs ds h1 g1 hs r1 => .inl ⟨_, ds.length, rfl, .inl ⟨vs, hs, r1.length.symm⟩, q I1 H1 _ _ h1 g1 (.int _)⟩
theorem en_listC (h : CN ζ Γ te fun ds => k (.lst ds)) : EN ζ Γ (tCB (rLo ζ.K) (tCons te tNil)) k := fun I σ H as e l zz Q q =>
  h I σ H as e l zz _ fun I1 H1 a vs ds h1 g1 hs r1 => ⟨a, vs, rfl, .inl hs, fun p hp => q _ _ _ _ h1 (g1.trans (Gr.new g1.ih hp)) (.lst upd_same (r1.mono (Ex.new (g1.ih.free hp))))⟩
theorem en_tupC (h : CN ζ Γ te fun ds => k (.tup ds)) : EN ζ Γ (tCB (rTo ζ.K) (tCons te tNil)) k := fun I σ H as e l zz Q q =>
  h I σ H as e l zz _ fun I1 H1 a vs ds h1 g1 hs r1 => ⟨a, vs, rfl, .inl ⟨hs, fun p hp => q _ _ _ _ h1 (g1.trans (Gr.new g1.ih hp)) (.tup (.inl (.inl upd_same)) (r1.mono (Ex.new (g1.ih.free hp))))⟩⟩
theorem en_join {to : TE} (h : EN ζ Γ to fun x => ∃ a : Str, x = .str a ∧ CN ζ Γ te fun ds => ∃ (ys : List Str), ds = ys.map D.str ∧ (ys.map (·.length)).sum + ys.length * a.length ≤ 16777216 ∧ k (.str (Txt.join a ys))) : EN ζ Γ (tM1 (rJoin ζ.K) to te) k := fun I σ H as e l zz Q q =>
  h I σ H as e l zz _ fun I1 H1 v x h1 g1 r1 => by
    obtain ⟨a, rfl, h1⟩ := h1
    cases r1
    refine ⟨⟨a, rfl⟩, h1 I1 σ H1 as g1.ih (l.mono g1) (zz.mono g1) _ fun I2 H2 p vs ds h2 g2 hs r2 => ?_⟩
    obtain ⟨ys, rfl, hl, hk⟩ := h2
    rw [rps_strs r2] at hs
    exact ⟨a, p, ys, rfl, rfl, .inl hs, hl, q I2 H2 _ _ hk (g1.trans g2) (.str _)⟩
/-! calls -/
theorem en_callR {R : List D → D → Prop} {EE : XK} {ta : TA} (h : EAN ζ Γ ta fun ds => ∃ d, R ds d ∧ k d) : EN ζ Γ (tCall (spR ζ.K R) [] EE ta) k := fun I σ H as e l zz Q q =>
  h I σ H as e l zz _ fun I1 H1 vs ds h1 g1 r1 => by
    obtain ⟨d, hr, hk⟩ := h1
    exact ⟨I1, ds, d, g1.ih, by rw [List.append_nil]; exact r1, hr, fun I2 H2 v g2 r2 => q I2 H2 v d hk (g1.trans g2) r2⟩
/-- the promise of a def that raises nothing and changes nothing: R arguments result, any such result -/
def spN (K : PySem.W.Frag) (R : List D → D → Prop) : Sp := fun vs H Q _ => ∃ (I : Hp) (ds : List D), Ex I H ∧ Rps K I vs ds ∧ (∃ d, R ds d) ∧ ∀ I' H' v d, R ds d → Gr [] I H I' H' → Rp K I' v d → Q v H'
theorem en_callN {R : List D → D → Prop} {EE : XK} {ta : TA} (h : EAN ζ Γ ta fun ds => (∃ d, R ds d) ∧ ∀ d, R ds d → k d) : EN ζ Γ (tCall (spN ζ.K R) [] EE ta) k := fun I σ H as e l zz Q q =>
  h I σ H as e l zz _ fun I1 H1 vs ds h1 g1 r1 => by
    obtain ⟨hr, hk⟩ := h1
    exact ⟨I1, ds, g1.ih, by rw [List.append_nil]; exact r1, hr, fun I2 H2 v d hd g2 r2 => q I2 H2 v d (hk d hd) (g1.trans g2) r2⟩
/-! what is walked -/
theorem isw_l {v : V} {I I' H' : Hp} {ds : List D} (r : Rp ζ.K I' v d) (hl : LD d ds) : ∃ a vs, v = .ref a ∧ SqL ζ.K I' a vs ∧ IsW ζ.K I' (Itl ζ.K a) ds := by
  obtain ⟨a, vs, rfl, hs, hr⟩ := r.l hl
  exact ⟨a, vs, rfl, hs, isw_at walk_list (fun I2 H2 e1 e2 => ex_l (e1.trans e2) hs) hr⟩
theorem sn_l {w : TI} {kk : List D → Prop} (h : EN ζ Γ te fun d => ∃ ds, LD d ds ∧ kk ds) : SN ζ Γ (fun σ H R => iList ζ.K te σ H R ∨ w σ H R) kk := fun I σ H as e l zz R q => .inl (h I σ H as e l zz _ fun I1 H1 v d hd g r => by
  obtain ⟨ds, hl, hk⟩ := hd
  obtain ⟨a, vs, rfl, hs, hw⟩ := isw_l (I := I) (H' := H1) r hl
  exact ⟨a, rfl, ⟨_, ex_l g.ih hs⟩, q I1 H1 _ ds hk g hw⟩)
theorem sn_t {w w' : TI} {kk : List D → Prop} (h : EN ζ Γ te fun d => ∃ ds, d = .tup ds ∧ kk ds) : SN ζ Γ (fun σ H R => w σ H R ∨ (fun σ H R => iTup ζ.K te σ H R ∨ w' σ H R) σ H R) kk := fun I σ H as e l zz R q => .inr (.inl (h I σ H as e l zz _ fun I1 H1 v d hd g r => by
  obtain ⟨ds, rfl, hk⟩ := hd
  cases r with
  | tup hs hr => exact ⟨_, rfl, ⟨_, ex_t g.ih hs⟩, q I1 H1 _ ds hk g (isw_at walk_tup (fun I2 H2 e1 e2 => ex_t (e1.trans e2) hs) hr)⟩))
theorem isw_s {I : Hp} {z : Str} : IsW ζ.K I (Its z) (z.cps.toList.map fun c => .str ⟨#[c]⟩) := by
  refine ⟨fun _ => True, _, by rw [List.length_map, Array.length_toList]; exact walk_str, fun _ _ _ _ => trivial, ?_⟩
  rintro i H x H' I2 hi ⟨rfl, c, hc, rfl⟩ e1 e2
  refine ⟨I2, .str ⟨#[c]⟩, Gr.refl e2, ?_, .str _⟩
  rw [List.getElem?_map, Array.getElem?_toList, hc]
  rfl
theorem sn_s {w w' : TI} {kk : List D → Prop} (h : EN ζ Γ te fun d => ∃ z : Str, d = .str z ∧ kk (z.cps.toList.map fun c => .str ⟨#[c]⟩)) : SN ζ Γ (fun σ H R => w σ H R ∨ (fun σ H R => w' σ H R ∨ iStr te σ H R) σ H R) kk := fun I σ H as e l zz R q => .inr (.inr (h I σ H as e l zz _ fun I1 H1 v d hd g r => by
  obtain ⟨z, rfl, hk⟩ := hd
  cases r
  exact ⟨z, rfl, q I1 H1 _ _ hk g isw_s⟩))
theorem sn_rng1 {ta : TA} {kk : List D → Prop} (h : EAN ζ Γ ta fun xs => ∃ n : Int, xs = [.int n] ∧ -(2 ^ 62) ≤ n ∧ n < 2 ^ 62 ∧ kk ((List.range n.toNat).map fun (i : Nat) => D.int (i : Int))) : SN ζ Γ (iRng1 ta) kk := fun I σ H as e l zz R q => h I σ H as e l zz _ fun I1 H1 v d hd g r => by
  obtain ⟨n, rfl, h0, h1, hk⟩ := hd
  cases r with
  | cons a b =>
    cases a; cases b
    refine ⟨n, rfl, h0, h1, q I1 H1 _ _ hk g ?_⟩
    have := isw_rng (K := ζ.K) (I := I1) (lo := 0) (n := n.toNat)
    simpa using this
theorem sn_rng2 {ta : TA} {kk : List D → Prop} (h : EAN ζ Γ ta fun xs => ∃ m n : Int, xs = [.int m, .int n] ∧ (-(2 ^ 62) ≤ m ∧ m < 2 ^ 62 ∧ -(2 ^ 62) ≤ n ∧ n < 2 ^ 62) ∧ kk ((List.range (n - m).toNat).map fun (i : Nat) => D.int (m + (i : Int)))) : SN ζ Γ (iRng2 ta) kk := fun I σ H as e l zz R q => h I σ H as e l zz _ fun I1 H1 v d hd g r => by
  obtain ⟨m, n, rfl, h0, hk⟩ := hd
  cases r with
  | cons a b =>
    cases a
    cases b with
    | cons a b =>
      cases a; cases b
      exact ⟨m, n, rfl, h0, q I1 H1 _ _ hk g isw_rng⟩
theorem sn_enum {ta : TA} {kk : List D → Prop} (h : EAN ζ Γ ta fun xs => ∃ d ds, xs = [d] ∧ LD d ds ∧ kk (enumD ds)) : SN ζ Γ (iEnum ζ.K ta) kk := fun I σ H as e l zz R q => h I σ H as e l zz _ fun I1 H1 v d hd g r => by
  obtain ⟨d, ds, rfl, hl, hk⟩ := hd
  cases r with
  | cons a b =>
    cases b
    obtain ⟨a', vs, rfl, hs, hr⟩ := a.l hl
    refine ⟨_, _, rfl, ex_l g.ih hs, q I1 H1 _ _ hk g (isw_pair walk_enum ?_ (fun I2 H2 e1 e2 => ex_l (e1.trans e2) hs) ?_)⟩
    · rw [enumD, List.length_mapIdx, hr.length]
    · intro i x y hi h1 h2
      obtain ⟨d, hd, rd⟩ := hr.getV h2
      refine ⟨.int i, d, ?_, ?_, rd⟩
      · rw [enumD, List.getElem?_mapIdx, hd]; rfl
      · cases h1; exact .int _
end
/-! ### statements -/
theorem EndsOk.xok {c : Cz} {lb I H : Hp} {κ : Ks} {De : Ends} {σ : St} {as : Nat → Addr} {Γ : Sl} (q : EndsOk c lb κ De) (e : Ex lb I) (a : At c I σ H as Γ) : XOk ⟨c.K, c.W, κ.ex Γ⟩ I H σ := fun I' H' C ns ds dx hx g hd =>
  q.ex I' σ H' as Γ C ns ds dx hx (e.trans g.i) (a.mono g) (hd.back a.gr.th)
section
variable {c : Cz} {Γ Γ' : Sl} {κ : Ks} {te : TE} {t u ts : TS} {d : D} {ds : List D}
theorem bn_set {i : Nat} (h : EN ⟨c.K, c.W, κ.ex Γ⟩ Γ te fun d => κ.nx (Γ.set i (some (.im d)))) : B c Γ (tAsg te (gName i)) κ := fun lb I σ H as De e a q =>
  h I σ H as a.gr.ih a.lo (q.xok e a) _ fun I1 H1 v d k g r => q.nx _ _ _ _ _ k (e.trans g.i) ((a.mono g).set r)
theorem bn_asg {g : TG} (h : EN ⟨c.K, c.W, κ.ex Γ⟩ Γ te fun d => ∃ ws Γ1, Tgt c.K g d ws Γ Γ1 ∧ κ.nx Γ1) : B c Γ (tAsg te g) κ := fun lb I σ H as De e a q =>
  h I σ H as a.gr.ih a.lo (q.xok e a) _ fun I1 H1 v d k gg r => by
    obtain ⟨ws, Γ1, tg, hk⟩ := k
    have a1 := a.mono gg
    exact tg.run I1 σ H1 as v gg.ih a1.lo r _ fun σ' lo' _ _ => q.nx _ _ _ _ _ hk (e.trans gg.i) ⟨a1.gr, lo', fun j d h => a1.ok j d (tg.sub j d h), a1.fix⟩
theorem bn_drop (h : EN ⟨c.K, c.W, κ.ex Γ⟩ Γ te fun _ => κ.nx Γ) : B c Γ (tDrop te) κ := fun lb I σ H as De e a q =>
  h I σ H as a.gr.ih a.lo (q.xok e a) _ fun I1 H1 v d k g r => q.nx _ _ _ _ _ k (e.trans g.i) (a.mono g)
theorem bn_ret (h : EN ⟨c.K, c.W, κ.ex Γ⟩ Γ te fun d => κ.rt d Γ) : B c Γ (tRet te) κ := fun lb I σ H as De e a q =>
  h I σ H as a.gr.ih a.lo (q.xok e a) _ fun I1 H1 v d k g r => q.rt _ _ _ _ _ k (e.trans g.i) (a.mono g).gr r fun p hp e1 he => by
    obtain ⟨_, _, o, ho, r1⟩ := (a.mono g).lo.at_ _ _ he
    rw [a.fix p hp] at ho
    exact ⟨o, ho, r1⟩
theorem bn_if {tc : TT} (h : TN ⟨c.K, c.W, κ.ex Γ⟩ Γ tc fun b => (b = true → B c Γ t κ) ∧ (b = false → B c Γ u κ)) : B c Γ (tIfS tc t u) κ := fun lb I σ H as De e a q =>
  h I σ H as a.gr.ih a.lo (q.xok e a) _ fun I1 H1 b hb g => by
    cases b with
    | true => exact hb.1 rfl lb I1 σ H1 as De (e.trans g.i) (a.mono g) q
    | false => exact hb.2 rfl lb I1 σ H1 as De (e.trans g.i) (a.mono g) q
theorem bn_new {i : Nat} {ta : TA} (hm : ∀ p ∈ c.m, p.1 ≠ i) (h : EAN ⟨c.K, c.W, κ.ex Γ⟩ Γ ta fun ds => ds.length ≤ sizeLine ∧ κ.nx (Γ.set i (some (.mu (.lst ds))))) : B c Γ (tAsg (tLst ta) (gName i)) κ := fun lb I σ H as De e a q =>
  h I σ H as a.gr.ih a.lo (q.xok e a) _ fun I1 H1 vs ds hk g r => by
    refine ⟨by rw [r.length]; exact hk.1, fun p hp => ?_⟩
    have a1 := a.mono g
    refine q.nx I1 _ _ (updA as i p) _ hk.2 (e.trans g.i) ⟨a1.gr.trans (Gr.junk a1.gr.ih hp), a1.lo.setNew a1.gr.ih hp (.lst r), fun j e1 h1 => ?_, fun p' hp' => by rw [updA_ne (hm p' hp')]; exact a1.fix p' hp'⟩
    rcases set_get h1 with ⟨rfl, _⟩ | ⟨ne, h'⟩
    · rw [updA_same]
      left
      cases z : c.H p with
      | none => rfl
      | some o => exact absurd hp (a1.gr.th p (by rw [z]; exact nofun))
    · rw [updA_ne ne]; exact a1.ok j e1 h'
theorem bn_append {i : Nat} (hi : Γ[i]? = some (some (.mu (.lst ds)))) (hl : ds.length < sizeLine) (h : EN ⟨c.K, c.W, κ.ex Γ⟩ Γ te fun d => κ.nx (Γ.set i (some (.mu (.lst (ds ++ [d])))))) : B c Γ (tDrop (tBM c.K "list" rAppend (tVar i) (tCons te tNil))) κ := fun lb I σ H as De e a q => by
  obtain ⟨hv, hn, o, ho, r⟩ := a.lo.at_ i _ hi
  cases r with
  | lst r =>
    refine ⟨_, hv, .inl ⟨rfl, _, SqL.of ho⟩, ?_⟩
    refine h I σ H as a.gr.ih a.lo (q.xok e a) _ fun I1 H1 v d hk g r1 => ?_
    have ho1 := g.ex _ _ ho
    refine ⟨_, _, _, rfl, rfl, ho1, by rw [r.length]; exact hl, ?_⟩
    exact q.nx I1 _ _ as _ hk (e.trans g.i) ((a.mono g).put hi (.lst ((r.mono g.i).append (.one r1))))
/-- how a loop over xs is shown -/
inductive Loop (c : Cz) (Γ : Sl) (g : TG) (tb : TS) (κ : Ks) (xs : List D) : Prop
  | mk {S : Type} (R : Nat → S → Prop) (Γf : S → Sl) (s0 : S) (h0 : R 0 s0) (l0 : Le (Γf s0) Γ)
    (ht : ∀ i s d, xs[i]? = some d → R i s → ∃ ws Γ1, Tgt c.K g d ws (Γf s) Γ1 ∧ B c Γ1 tb ⟨fun Γ' => ∃ s', R (i + 1) s' ∧ Le (Γf s') Γ', κ.rt, κ.nx, fun Γ' => ∃ s', R (i + 1) s' ∧ Le (Γf s') Γ', κ.ex⟩)
    (hd : ∀ s, R xs.length s → κ.nx (Γf s)) : Loop c Γ g tb κ xs
theorem bn_for {wi : TI} {g : TG} {tb : TS} (h : SN ⟨c.K, c.W, κ.ex Γ⟩ Γ wi (Loop c Γ g tb κ)) : B c Γ (tFor wi g tb) κ := fun lb I σ H as De e a k =>
  h I σ H as a.gr.ih a.lo (k.xok e a) _ fun I1 H1 J xs hx g1 hw => by
    obtain ⟨R, Γf, s0, h0, l0, ht, hd⟩ := hx
    obtain ⟨Gc, Y, w, hg, hy⟩ := hw
    refine for_it (g := g) (tb := tb) (D := De) w (fun i σ H => ∃ I as s, R i s ∧ Ex I1 I ∧ At c I σ H as (Γf s)) ⟨I1, as, s0, h0, Ex.refl _, (a.mono g1).weak l0⟩ (fun i σ H _ ⟨I, as, s, _, e1, a1⟩ => hg I H e1 a1.gr.ih) ?_ ?_
    · rintro i x σ H H' hi ⟨I, as, s, r, e1, a1⟩ y
      obtain ⟨I2, d, g2, hd2, rx⟩ := hy i H x H' I hi y e1 a1.gr.ih
      obtain ⟨ws, Γ1, tg, hb⟩ := ht i s d hd2 r
      have a2 := a1.mono g2
      refine tg.run I2 σ H' as x g2.ih a2.lo rx _ fun σ' lo' _ _ => ?_
      have e3 : Ex I1 I2 := e1.trans g2.i
      have e0 : Ex lb I1 := e.trans g1.i
      exact hb I1 I2 σ' H' as _ e3 ⟨a2.gr, lo', fun j d h => a2.ok j d (tg.sub j d h), a2.fix⟩ ⟨fun I3 σ3 H3 as3 Γ3 ⟨s', r', le⟩ e4 a4 => ⟨I3, as3, s', r', e4, a4.weak le⟩,
        fun I3 H3 Γ3 v d hr e4 => k.rt I3 H3 Γ3 v d hr (e0.trans e4), fun I3 σ3 H3 as3 Γ3 hb e4 a4 => k.nx I3 σ3 H3 as3 Γ3 hb (e0.trans e4) a4, fun I3 σ3 H3 as3 Γ3 ⟨s', r', le⟩ e4 a4 => ⟨I3, as3, s', r', e4, a4.weak le⟩, fun I3 σ3 H3 as3 Γ3 C ns ds dx hx e4 => k.ex I3 σ3 H3 as3 Γ3 C ns ds dx hx (e0.trans e4)⟩
    · rintro σ H ⟨I, as, s, r, e1, a1⟩
      exact k.nx I σ H as _ (hd s r) ((e.trans g1.i).trans e1) a1
theorem Loop.fold {α : Type} {xs : List α} {em : α → D} {g : TG} {tb : TS} {S : Type} (step : S → α → S) (P : Nat → S → Prop) (Γf : S → Sl) (s0 : S) (h0 : P 0 s0) (l0 : Le (Γf s0) Γ) (hP : ∀ (i : Nat) (s : S) (x : α), xs[i]? = some x → P i s → P (i + 1) (step s x))
    (ht : ∀ (i : Nat) (s : S) (x : α), xs[i]? = some x → P i s → ∃ ws Γ1, Tgt c.K g (em x) ws (Γf s) Γ1 ∧ B c Γ1 tb ⟨fun Γ' => Le (Γf (step s x)) Γ', κ.rt, fun _ => False, fun Γ' => Le (Γf (step s x)) Γ', κ.ex⟩)
    (hd : P xs.length (xs.foldl step s0) → κ.nx (Γf (xs.foldl step s0))) : Loop c Γ g tb κ (xs.map em) := by
  refine .mk (fun i s => s = (xs.take i).foldl step s0 ∧ P i s) Γf s0 ⟨rfl, h0⟩ l0 ?_ ?_
  · rintro i s d hd ⟨e, p⟩
    rw [List.getElem?_map] at hd
    obtain ⟨x, hx⟩ : ∃ x, xs[i]? = some x := by
      cases hx : xs[i]? with
      | none => rw [hx] at hd; cases hd
      | some x => exact ⟨x, rfl⟩
    rw [hx] at hd
    cases hd
    obtain ⟨ws, Γ1, tg, hb⟩ := ht i s x hx p
    have e2 : step s x = (xs.take (i + 1)).foldl step s0 := by
      rw [List.take_add_one, hx, List.foldl_append, ← e]; rfl
    exact ⟨ws, Γ1, tg, b_ks hb (fun Γ' h => ⟨_, ⟨e2, hP i s x hx p⟩, h⟩) (fun _ _ h => h) (fun _ h => h.elim) (fun Γ' h => ⟨_, ⟨e2, hP i s x hx p⟩, h⟩)⟩
  · rintro s ⟨e, p⟩
    rw [List.length_map] at e p
    rw [List.take_length] at e
    subst e
    exact hd p
/-- a loop that only looks -/
theorem Loop.look {xs : List D} {g : TG} {tb : TS} (P : Nat → Prop) (Γf : Sl) (h0 : P 0) (l0 : Le Γf Γ)
    (ht : ∀ (i : Nat) (d : D), xs[i]? = some d → P i → ∃ ws Γ1, Tgt c.K g d ws Γf Γ1 ∧ B c Γ1 tb ⟨fun Γ' => P (i + 1) ∧ Le Γf Γ', κ.rt, κ.nx, fun Γ' => P (i + 1) ∧ Le Γf Γ', κ.ex⟩)
    (hd : P xs.length → κ.nx Γf) : Loop c Γ g tb κ xs := by
  refine .mk (fun i (_ : Unit) => P i) (fun _ => Γf) () h0 l0 ?_ ?_
  · rintro i s d hd p
    obtain ⟨ws, Γ1, tg, hb⟩ := ht i d hd p
    exact ⟨ws, Γ1, tg, b_ks hb (fun Γ' h => ⟨(), h.1, h.2⟩) (fun _ _ h => h) (fun _ h => h) (fun Γ' h => ⟨(), h.1, h.2⟩)⟩
  · rintro s p
    exact hd p
end
/-! ### comprehensions -/
section
variable {K : PySem.W.Frag} {Γ : Sl}
/-- item by item -/
inductive Each {α β : Type} (P : α → β → Prop) : List α → List β → Prop
  | nil : Each P [] []
  | cons {a : α} {b : β} {as : List α} {bs : List β} : P a b → Each P as bs → Each P (a :: as) (b :: bs)
theorem Each.length {α β : Type} {P : α → β → Prop} : ∀ {as : List α} {bs : List β}, Each P as bs → as.length = bs.length
  | _, _, .nil => rfl
  | _, _, .cons _ r => congrArg (· + 1) r.length
theorem Each.snoc {α β : Type} {P : α → β → Prop} {a : α} {b : β} (h : P a b) : ∀ {as : List α} {bs : List β}, Each P as bs → Each P (as ++ [a]) (bs ++ [b])
  | _, _, .nil => .cons h .nil
  | _, _, .cons q r => .cons q (Each.snoc h r)
theorem Each.mem {α β : Type} {P : α → β → Prop} : ∀ {as : List α} {bs : List β}, Each P as bs → ∀ b ∈ bs, ∃ a ∈ as, P a b
  | _, _, .cons q r, b, h => by
    rcases List.mem_cons.mp h with rfl | h
    · exact ⟨_, List.mem_cons_self, q⟩
    · obtain ⟨a, ha, hp⟩ := r.mem b h
      exact ⟨a, List.mem_cons_of_mem _ ha, hp⟩
theorem Each.map {α β : Type} {f : α → β} : ∀ {as : List α} {bs : List β}, Each (fun a b => b = f a) as bs → bs = as.map f
  | _, _, .nil => rfl
  | _, _, .cons q r => by rw [q, r.map]; rfl
theorem Each.get {α β : Type} {P : α → β → Prop} : ∀ {as : List α} {bs : List β} {i : Nat} {b : β}, Each P as bs → bs[i]? = some b → ∃ a, as[i]? = some a ∧ P a b
  | _, _, 0, _, .cons q _, h => by simp at h; subst h; exact ⟨_, rfl, q⟩
  | _, _, i + 1, _, .cons _ r, h => by
    obtain ⟨a, ha, hp⟩ := r.get (i := i) (by simpa using h)
    exact ⟨a, by simpa using ha, hp⟩
/-- [te for g in wi if tt]: the test by p, the items by P -/
theorem en_lc {ζ : Xz} {k : D → Prop} {wi : TI} {g : TG} {tt : TT} {te : TE} {vs : List Nat} (h : SN ζ Γ wi fun xs => xs.length ≤ 10000000 ∧ ∃ (p : D → Bool) (P : D → D → Prop),
    (∀ (i : Nat) (x : D), xs[i]? = some x → ∃ ws Γ1, Tgt ζ.K g x ws (wipeG Γ vs) Γ1 ∧ (∀ j ∈ ws, j ∈ vs) ∧ TN (zNo ζ.K) Γ1 tt fun b => b = p x ∧ (b = true → EN (zNo ζ.K) Γ1 te (P x))) ∧ ∀ ys, Each P (xs.filter p) ys → k (.lst ys)) : EN ζ Γ (tLc wi g tt te vs) k := fun I σ H as e l zz Q q =>
  h I σ H as e l zz _ fun I1 H1 J xs hx g1 hw => fun Dd hD => by
    obtain ⟨hl, p, P, ht, hk⟩ := hx
    obtain ⟨Gc, Y, w, hg, hy⟩ := hw
    have fresh1 : I1 Dd = none := g1.ih.free hD
    refine lc_it (Qd := fun H => Q (.ref Dd) H) w (fun i H => ∃ I' acc ys, Gr [] I1 H1 I' H ∧ I' Dd = none ∧ H Dd = some (.lst acc) ∧ Rps ζ.K I' acc ys ∧ Each P ((xs.take i).filter p) ys ∧ Lo ζ.K I' σ H as Γ)
      ⟨I1, [], [], Gr.junk g1.ih hD, fresh1, upd_same, .nil, by simp; exact .nil, (l.mono g1).mono (Gr.junk g1.ih hD)⟩ (fun i H _ ⟨I', acc, _, g2, _⟩ => hg I' H g2.i g2.ih) ?_ ?_
    · rintro i v H2 H3 hi ⟨I2, acc, ys, g2, n2, a2, r2, ea, l2⟩ y
      obtain ⟨I3, x, g3, hx, rx⟩ := hy i H2 v H3 I2 hi y g2.i g2.ih
      obtain ⟨ws, Γ1, tg, hws, t1⟩ := ht i x hx
      have nn : H2 Dd ≠ none := by rw [a2]; exact nofun
      refine tg.run I3 (wipe σ vs) H3 as v g3.ih ((l2.mono g3).wipe vs) rx _ fun σ' l' k' n' => ⟨wipe_eq k' n' hws, ?_⟩
      refine t1 I3 σ' H3 as g3.ih l' XOk.no _ fun I4 H4 b hb g4 => ?_
      obtain ⟨hb1, t2⟩ := hb
      have g34 := g3.trans g4
      have htake : xs.take (i + 1) = xs.take i ++ [x] := by rw [List.take_add_one, hx]; rfl
      have hlen : ((xs.take i).filter p).length ≤ xs.length := Nat.le_trans (List.length_filter_le _ _) (by rw [List.length_take]; omega)
      cases b with
      | true =>
        rw [if_pos rfl]
        refine t2 rfl I4 σ' H4 as g4.ih (l'.mono g4) XOk.no _ fun I5 H5 z d hd g5 r5 => ?_
        have g345 := g34.trans g5
        refine ⟨acc, g345.ex _ _ a2, ?_, I5, _, ys ++ [d], (g2.trans g345).mut (g345.none_i n2 nn) (.inl hD), g345.none_i n2 nn, upd_same, (r2.mono g345.i).append (.one r5), ?_, ?_⟩
        · rw [r2.length, ← ea.length, sizeLine_eq]; omega
        · rw [htake, List.filter_append]
          have : [x].filter p = [x] := by simp [← hb1]
          rw [this]
          exact ea.snoc hd
        · refine ⟨fun j s hj => ?_, l2.ne, l2.len⟩
          have q1 := (l2.mono g345).at_ j s hj
          cases s with
          | im d => exact q1
          | mu d =>
            obtain ⟨e1, n1, o1, r1, r3⟩ := q1
            refine ⟨e1, n1, o1, ?_, r3⟩
            have : as j ≠ Dd := fun z => by
              obtain ⟨_, _, o, ho, _⟩ := l.at_ j _ hj
              rw [z] at ho
              rw [g1.ex _ _ ho] at hD
              cases hD
            rw [upd_ne this]; exact r1
      | false =>
        rw [if_neg Bool.false_ne_true]
        refine ⟨I4, acc, ys, g2.trans g34, g34.none_i n2 nn, g34.ex _ _ a2, r2.mono g34.i, ?_, l2.mono g34⟩
        rw [htake, List.filter_append]
        have : [x].filter p = [] := by simp [← hb1]
        rw [this, List.append_nil]
        exact ea
    · rintro H2 ⟨I2, acc, ys, g2, n2, a2, r2, ea, _⟩
      rw [List.take_of_length_le (Nat.le_refl _)] at ea
      have g12 := g1.trans g2
      have hH : H Dd = none := g1.ex.free hD
      refine q _ _ _ _ (hk ys ea) (g12.frz n2 hH a2) (.lst upd_same (r2.mono (Ex.new n2)))
end
/-! ### defs whose result is told by a relation alone -/
theorem ok_ofN {P : Program} {w : World} {K : PySem.W.Frag} {mg : Str → Option Value} {base : Heap} {x qual : Str} {st : Stmt} {f : Addr} {fd : FuncData} {N ps : List Str} {k : Nat} {R : List D → D → Prop} (F : Fun K x qual st f fd) (S : FnScope N ps (defScope st)) (hn : ∀ ds d, R ds d → ds.length = ps.length)
    (hb : ∀ (cdv : Value) (A : Around) (outer : List Env) (s : Shared) (H : Hp) (E : XK), Room k (A.deeper (PyProof.Rows.envOfC qual (defScope st) s.heap.objs.size f cdv)) →
      ∃ t, PSs (cxOf CX0 P w K mg base N qual (defScope st) f cdv A outer s H E).nox (defBody st) t ∧ ∀ (I H' : Hp) ds d, R ds d → B ⟨K, I, H', [], fun _ _ _ _ => False⟩ (slots N ds) t { nx := fun _ => R ds .non, rt := fun e _ => R ds e }) :
    FnOk P w K mg base CX0 (k + 1) f fd ps (spN K R) := by
  refine F.ok S (fun vs H Q E h => ?_) (fun cdv A outer s H vs Q E hr h => ?_)
  · obtain ⟨I, ds, _, r, ⟨d, hR⟩, _⟩ := h
    rw [r.length]; exact hn ds d hR
  · obtain ⟨I, ds, e, r, ⟨d, hR⟩, q⟩ := h
    obtain ⟨t, ht, hB⟩ := hb cdv A outer s H E hr
    have nomu : ∀ (i : Nat) (d : D), (slots N ds)[i]? ≠ some (some (SV.mu d)) := fun i d h => by
      obtain ⟨h1, _⟩ := (lo_start (N := N) (H := H) r).at_ i _ h
      unfold slots at h
      rw [List.getElem?_append] at h
      split at h
      · rw [List.getElem?_map] at h
        cases q : ds[i]? with
        | none => rw [q] at h; cases h
        | some x => rw [q] at h; cases h
      · obtain ⟨a, b⟩ := List.getElem?_eq_some_iff.mp h
        rw [List.getElem_replicate] at b
        cases b
    exact ⟨t, ht, hB I H ds d hR I I _ H (fun _ => 0) _ (Ex.refl _) ⟨Gr.refl e, lo_start r, fun i d h => absurd h (nomu i d), fun p hp => nomatch hp⟩
      ⟨fun I1 σ1 H1 as Γ1 h1 _ a1 => q I1 H1 .non _ h1 a1.gr .non, fun I1 H1 Γ1 v e1 h1 _ g1 r1 _ => q I1 H1 v _ h1 g1 r1, fun _ _ _ _ _ h => h.elim, fun _ _ _ _ _ h => h.elim, fun _ _ _ _ _ _ _ _ _ h => h.elim⟩⟩
structure CalleeN (P : Program) (w : World) (K : PySem.W.Frag) (mg : Str → Option Value) (base : Heap) (x : Str) (k : Nat) (ps : List Str) (R : List D → D → Prop) : Prop where
  ex : ∃ f fd, FnOk P w K mg base CX0 k f fd ps (spN K R) ∧ mg x = some (.ref f) ∧ PySem.W.keepIn K (.ref f) = true ∧ Binds K fd ps [] ∧ ∃ (oc : Value) (od : Option Addr) (osl : Array (Option Value)), K.lookup f = some ⟨oc, od, .func fd, osl⟩
theorem ok_defN {P : Program} {w : World} {K : PySem.W.Frag} {mg : Str → Option Value} {base : Heap} {x qual : Str} {st : Stmt} {N ps : List Str} {k : Nat} {R : List D → D → Prop} (F : DefAt K mg x qual st ps) (S : FnScope N ps (defScope st)) (hn : ∀ ds d, R ds d → ds.length = ps.length)
    (hb : ∀ (f : Addr) (cdv : Value) (A : Around) (outer : List Env) (s : Shared) (H : Hp) (E : XK), Room k (A.deeper (PyProof.Rows.envOfC qual (defScope st) s.heap.objs.size f cdv)) →
      ∃ t, PSs (cxOf CX0 P w K mg base N qual (defScope st) f cdv A outer s H E).nox (defBody st) t ∧ ∀ (I H' : Hp) ds d, R ds d → B ⟨K, I, H', [], fun _ _ _ _ => False⟩ (slots N ds) t { nx := fun _ => R ds .non, rt := fun e _ => R ds e }) :
    CalleeN P w K mg base x (k + 1) ps R := by
  obtain ⟨f, fd, F1, hm, b⟩ := F.ex
  obtain ⟨oc, od, kV, doc, pm, an, cdv, ct, osl, rfl, lk, _⟩ := id F1.ex
  exact ⟨f, _, ok_ofN F1 S hn (hb f), hm, F1.kp, b, oc, od, osl, lk⟩
section
variable {X : Cx} {P : Program} {w : World} (K : PySem.W.Frag) {mg : Str → Option Value} {base : Heap} {x : Str} {j k : Nat} {ps : List Str} {R : List D → D → Prop} {p pos : Pos} {e : Expr} {es : List Expr} {t : TA}
theorem k_callN (c : CalleeN P w K mg base x k ps R) (hr : Room j X.A) (hk : k ≤ j) (hg : Gl X x) (ha : PA X (e :: es) t) (hdb : (x == ("__debug__" : Str)) = false := by decide)
    (he : starEach (e :: es) X.env = (false, eval e X.env) :: starEach es X.env := by rfl) (hpl : (backTo pos (starEach es X.env)).any (·.1) = false := by rfl) (hx : Passes CX0 X E0 := by exact pass0)
    (hX : X.prog = P ∧ X.w = w ∧ X.K = K ∧ X.mg = mg ∧ X.base = base := by exact ⟨rfl, rfl, rfl, rfl, rfl⟩) :
    PE X (.Call (.Name x p) (e :: es) [] pos) (tCall (spN K R) [] E0 t) := by
  obtain ⟨rfl, rfl, rfl, rfl, rfl⟩ := hX
  obtain ⟨f, fd, F, hm, kp, b, _⟩ := c.ex
  exact pe_call F (hr.mono hk) hg hm kp b .nil hx ha hdb he hpl
end
end G

namespace G
open PySem PySem.Spec L2 PyProof.Rows
/-! ### exceptions of the program's own, as values -/
def tExv (C : Addr) (sp : Sp) (ta : TA) : TE := fun σ H Q => ta σ H fun vs H1 => vs.length ≤ 1000 ∧ ∀ a, H1 a = none → sp (.ref a :: vs) (upd H1 a (exo a C none)) (fun v H2 => v = .non ∧ Q (.ref a) H2) (fun _ _ _ => False)
section
variable {X : Cx} {o e : Expr} {es : List Expr} {to te : TE} {ta : TA} {f : Str} {p p' p1 p2 pos : Pos}
/-- C(e, ..) as a value, C's own __init__ keeping sp -/
theorem pe_exv {CX : CXT} {x : Str} {C fI : Addr} {k : Nat} {fd : FuncData} {ps : List Str} {sp : Sp} (T : OexC X.K C) (iC : PySem.W.findIn X.K (.ref C) "__init__" = some (some (.ref fI))) (tI : PySem.W.typeIn X.K (.ref fI) = some (.type "function"))
    (F1 : FnOk X.prog X.w X.K X.mg X.base CX k fI fd ps sp) (hr : Room (k + 1) X.A) (hb : Binds X.K fd ps []) (hx : Passes CX X (fun _ _ _ => False)) (hg : Gl X x) (hm : X.mg x = some (.ref C)) (ha : PA X (e :: es) ta)
    (hdb : (x == ("__debug__" : Str)) = false := by decide) (he : starEach (e :: es) X.env = (false, eval e X.env) :: starEach es X.env := by rfl) (hpl : (backTo pos (starEach es X.env)).any (·.1) = false := by rfl) :
    PE X (.Call (.Name x p) (e :: es) [] pos) (tExv C sp ta) := by
  refine ⟨fun pins s σ H Q I h => ?_⟩
  obtain ⟨nm, q, N, bs, bm, sn, sub, ab, col, dd, k0, k1, k2, k3, k5, hC, hbm⟩ := T.cls
  refine wpAny_Call_Name_kw (ld_glob I hg hm ?_ hdb)
  refine PySem.W.callWith_K (h₀ := X.base) I.ok.mod.kin T.kC (thn (ha.run pos pins s σ H _ I h) fun us s1 ⟨vs, H1, I1, r1, hz, q1⟩ => ⟨I1.kIn, ?_⟩) he hpl
  show wpAny _ _ (call (.ref C) us) _ _ _
  obtain ⟨hp, g, dr, tk, os⟩ := s1
  have hsz : hp.objs.size ≤ hp.objs.size + 1 := Nat.le_succ _
  have hn : H1 (hp.objs.size + 1) = none := I1.hok.fresh hsz
  have hq := q1 (hp.objs.size + 1) hn
  have kk : ∀ b o, hp.get? b = some o → ((hp.push (PySem.W.kdv_tup us)).push (PySem.HandSPX.excO C hp.objs.size)).get? b = some o := fun b o e => Heap.get?_push_of_some _ (Heap.get?_push_of_some _ e)
  have hget : ((hp.push (PySem.W.kdv_tup us)).push (PySem.HandSPX.excO C hp.objs.size)).get? (hp.objs.size + 1) = some (PySem.HandSPX.excO C hp.objs.size) := by heap_get
  have I2 : Inv X pins σ (upd H1 (hp.objs.size + 1) (exo (hp.objs.size + 1) C none)) ⟨(hp.push (PySem.W.kdv_tup us)).push (PySem.HandSPX.excO C hp.objs.size), g, dr, tk, os⟩ :=
    I1.laid (t' := tk) (a := hp.objs.size + 1) (o := exo (hp.objs.size + 1) C none) (h' := (hp.push (PySem.W.kdv_tup us)).push (PySem.HandSPX.excO C hp.objs.size)) kk hsz (exo_ok hget)
  have r2 : Vals (V.ref (hp.objs.size + 1) :: vs) (Value.ref (hp.objs.size + 1) :: us) := .cons rfl r1
  have hl : (Value.ref (hp.objs.size + 1) :: us).length = ps.length := by
    have e := r2.length
    rw [F1.len _ _ _ _ hq] at e
    exact e.symm
  have hus : us.length ≤ sizeLine := by
    rw [← Paired.length r1, sizeLine_eq]
    omega
  have b := hb _ (Value.ref (hp.objs.size + 1) :: us) I2.kIn (by rw [List.append_nil]; exact hl)
  rw [List.append_nil] at b
  refine wpAny_call (PySem.HandSPX.call_own F.excBase_ValueError (fun Y => PySem.HandSPX.refsVE_contains Y bm hbm) (I1.kIn _ _ hC) (PySem.W.looks_findIn I1.kIn iC) (fun self => PySem.W.bind_fn I1.kIn self tI) hus
    (codeAny_mono (F1.run _ X.stack _ _ ⟨Value.ref (hp.objs.size + 1) :: us, []⟩ (Value.ref (hp.objs.size + 1) :: us) _ _ (fun _ _ _ => False) (hr.make C us []) (I2.env0.make C us []) b r2 hq) fun r s' hq' => ?_))
  cases r with
  | error er => exact hx pins σ _ _ er s' I2 hq'
  | ok fl =>
    cases fl with
    | ret u =>
      obtain ⟨v, H2, J, rv, ev, q2⟩ := I2.after hq'
      subst ev
      exact ⟨rv, .ref (hp.objs.size + 1), H2, J, rfl, q2⟩
    | next => exact False.elim hq'
    | brk => exact False.elim hq'
    | cont => exact False.elim hq'
/-- B.__init__(self, ..) where the class B of the text has ValueError's own -/
theorem pe_teinit {pl : Sem Bool} {x : Str} {CT : Addr} (hg : Gl X x) (hm : X.mg x = some (.ref CT)) (r : ClX.CRead X.K CT (.type "type")) (vV : PySem.W.findCls X.K (.ref CT) (.type "type") "__init__" = some (.val (.builtin "ValueError.__init__"))) (ha : PA X (e :: es) ta)
    (hdb : (x == ("__debug__" : Str)) = false := by decide)
    (hc : eval (.Call (.Attribute (.Name x p1) "__init__" p2) (e :: es) [] pos) X.env = (do
      let ov ← eval (.Name x p1) X.env
      standAt p2.atName
      let (f, first) ← holding [ov] (getMethod ov "__init__" pl)
      callWith pos f first (backTo pos (starEach (e :: es) X.env)) (backToKw pos (keywordEach [] X.env))) := by rfl)
    (he : starEach (e :: es) X.env = (false, eval e X.env) :: starEach es X.env := by rfl) (hpl : (backTo pos (starEach es X.env)).any (·.1) = false := by rfl) :
    PE X (.Call (.Attribute (.Name x p1) "__init__" p2) (e :: es) [] pos) (tVeI X.K ta) := by
  refine ⟨fun pins s σ H Q I h => ?_⟩
  refine PySem.W.methodCall_KW (ld_glob I hg hm ?_ hdb) hc
  refine PySem.W.method_cls I.kIn r.ga (PySem.W.cls_value I.kIn r.rd vV (by decide +kernel) ?_)
  show wpAny _ _ (callWith pos (Value.builtin "ValueError.__init__") [] (backTo pos (starEach (e :: es) X.env)) []) _ _ _
  refine PyProof.Rows.callWith_method1 (thn (ha.run pos pins _ σ H _ (I.tok _) h) fun us s1 ⟨vs, H1, I1, r1, a, C, ws, ev, hl, T, ea, q⟩ => ?_) he hpl
  subst ev
  cases r1 with
  | @cons _ u0 _ ur ra rw' =>
    obtain rfl : u0 = Value.ref a := ra
    have hlen : ur.length ≤ sizeLine := by
      rw [← Paired.length rw', sizeLine_eq]
      omega
    exact oinit_ok T I1 ea hlen fun s' J => ⟨.non, H1, J, rfl, q⟩
/-- e.f, e an exception that has its dict -/
def tXv (K : PySem.W.Frag) (te : TE) (f : Str) : TE := fun σ H Q => te σ H fun x H1 => ∃ (a C dd : Addr) (fs : List (Str × V)) (v : V), x = .ref a ∧ XfC K C ∧ PySem.W.findIn K (.ref C) f = some none ∧ H1 a = some (exo a C (some dd)) ∧ H1 dd = some (exd dd fs) ∧ fs.lookup f = some v ∧ Q v H1
theorem pe_xv {n : Str} (he : PE X e te) (hb : attributeBase e n X.env (eval e X.env) = eval e X.env := by rfl) :
    PE X (.Attribute e n pos) (tXv X.K te n) := by
  refine ⟨fun pins s σ H Q I h => ?_⟩
  refine attr_of hb (thn (he.run pins s σ H _ I h) fun u s1 hh => ?_)
  obtain ⟨x, H1, I1, rx, a, C, dd, fs, v, ex, T, hno, ea, ed, l, q⟩ := hh
  subst ex
  obtain rfl : u = Value.ref a := rx
  obtain ⟨t1, ho⟩ := exo_at I1.hok ea
  obtain ⟨mA, hns, hr⟩ := exd_at I1.hok ed
  obtain ⟨od, hod, hl⟩ := lookIn_ns hns
  obtain ⟨u, hu, ru⟩ := RelO.some_of (v := v) (o := mA n) (by rw [← l]; exact hr n)
  have J : PySem.W.InstAt s1.heap a _ C (some od) := ⟨ho, rfl, rfl, hod⟩
  exact HandSPX.exc_get I1.kIn J T.ga T.gg T.exC (PySem.W.findObj_own T.hdC hno rfl (by rw [hl, hu])) (handed_of ru) ⟨v, H1, I1.tok _, ru, q⟩
end
/-- what K says of a class of exceptions, for isinstance -/
structure XiC (K : PySem.W.Frag) (C : Addr) : Prop where
  cl : (PySem.W.clsIn K C).isSome = true
  ga : PySem.W.findIn K (.ref C) "__getattribute__" = some (some (.builtin "BaseException.__getattribute__"))
  gg : PySem.W.findIn K (.ref C) "__getattr__" = some none
  su : PySem.W.subIn K (.ref C) (.type "BaseException") = some true
  ha : PySem.W.findIn K (.ref C) "__class__" = some (some (.builtin "object.__class__"))
  hn : PySem.W.specialIn K (.builtin "object.__class__") "__get__" = some (some (.builtin "getset_descriptor.__get__"))
  ht : PySem.W.takesIn K (.builtin "object.__class__") = some true
  hm : PySem.W.mroIn K C (.type "object") = some true
/-- isinstance(e, c), e an exception that has its dict -/
def rIsX (K : PySem.W.Frag) : List V → Hp → VK → Prop := fun xs H Q => ∃ (a D dd : Addr) (c : V) (cv : Value) (b : Bool) (fs : List (Str × V)), xs = [.ref a, c] ∧ (∀ u, RelV c u → u = cv) ∧ XiC K D ∧ H a = some (exo a D (some dd)) ∧ H dd = some (exd dd fs) ∧ PySem.W.kitOne K (.ref D) cv = some b ∧ Q (.bl b) H
theorem call_isX {X : Cx} : CallR X (.builtin "isinstance") (rIsX X.K) := by
  intro pins s σ H xs us Q I r h
  obtain ⟨a, D, dd, c, cv, b, fs, rfl, hcv, C, ea, ed, e, q⟩ := h
  cases r with
  | cons rx rr =>
    cases rr with
    | cons rt rr =>
      cases rr
      cases rx
      have ec := hcv _ rt
      subst ec
      obtain ⟨t1, ho⟩ := exo_at I.hok ea
      obtain ⟨mA, hns, hr⟩ := exd_at I.hok ed
      obtain ⟨od, hod, hl⟩ := lookIn_ns hns
      have J : PySem.W.InstAt s.heap a _ D (some od) := ⟨ho, rfl, rfl, hod⟩
      exact PySem.W.kia_one (PySem.W.kitx_exc C.cl C.ga C.gg C.su C.ha C.hn C.ht C.hm) I.kIn J e (fun z => nomatch z) fun tk => ⟨.bl b, H, I.kept (t' := tk) fun _ _ z => z, rfl, q⟩

/-! ### what an own __init__ of one field keeps, of two -/
def spI (C : Addr) (f : Str) : Sp := fun vs H Q _ => ∃ (a : Addr) (y : V), vs = [.ref a, y] ∧ H a = some (exo a C none) ∧ ∀ dx, H dx = none → dx ≠ a → Q .non (upd (upd H dx (exd dx [(f, y)])) a (exo a C (some dx)))
def spI2 (C : Addr) (f g : Str) : Sp := fun vs H Q _ => ∃ (a : Addr) (y z : V), vs = [.ref a, y, z] ∧ H a = some (exo a C none) ∧ ∀ dx, H dx = none → dx ≠ a → Q .non (upd (upd H dx (exd dx [(g, z), (f, y)])) a (exo a C (some dx)))
section
variable {P : Program} {w : World} {K : PySem.W.Frag} {mg : Str → Option Value} {base : Heap}
theorem ok_init {C : Addr} {qual fld p m : Str} {st : Stmt} {f : Addr} {fd : FuncData} (F : Fun K "__init__" qual st f fd) (S : FnScope ["self", p] ["self", p] (defScope st)) (T : OexC K C) (hno : PySem.W.findIn K (.ref C) fld = some none)
    (hb : ∀ (cdv : Value) (A : Around) (outer : List Env) (s : Shared) (H : Hp) (E : XK), PSs (cxOf CX0 P w K mg base ["self", p] qual (defScope st) f cdv A outer s H E).nox (defBody st) (tSeq (tDrop (tVeI K (tCons (tVar 0) (tCons (tC (.str m)) tNil)))) (tOst K fld (tVar 0) (tVar 1)))) :
    FnOk P w K mg base CX0 1 f fd ["self", p] (spI C fld) := by
  refine F.ok (k := 0) S (fun vs H Q E ⟨a, y, e, _⟩ => by rw [e]; rfl) (fun cdv A outer s H vs Q E hr ⟨a, y, e, ha, q⟩ => ⟨_, hb cdv A outer s H E, ?_⟩)
  subst e
  refine ⟨.ref a, rfl, ⟨a, C, [.str m], rfl, Nat.le_of_ble_eq_true rfl, T, ha, ?_⟩⟩
  refine ⟨y, rfl, .ref a, rfl, a, C, rfl, T, hno, .inl ⟨ha, fun dx h1 h2 => q dx h1 h2⟩⟩
theorem ok_init2 {C : Addr} {qual fld gld p r m : Str} {st : Stmt} {f : Addr} {fd : FuncData} (F : Fun K "__init__" qual st f fd) (S : FnScope ["self", p, r] ["self", p, r] (defScope st)) (T : OexC K C) (hno : PySem.W.findIn K (.ref C) fld = some none) (hno2 : PySem.W.findIn K (.ref C) gld = some none)
    (hb : ∀ (cdv : Value) (A : Around) (outer : List Env) (s : Shared) (H : Hp) (E : XK), PSs (cxOf CX0 P w K mg base ["self", p, r] qual (defScope st) f cdv A outer s H E).nox (defBody st) (tSeq (tDrop (tVeI K (tCons (tVar 0) (tCons (tC (.str m)) tNil)))) (tSeq (tOst K fld (tVar 0) (tVar 1)) (tOst K gld (tVar 0) (tVar 2))))) :
    FnOk P w K mg base CX0 1 f fd ["self", p, r] (spI2 C fld gld) := by
  refine F.ok (k := 0) S (fun vs H Q E ⟨a, y, z, e, _⟩ => by rw [e]; rfl) (fun cdv A outer s H vs Q E hr ⟨a, y, z, e, ha, q⟩ => ⟨_, hb cdv A outer s H E, ?_⟩)
  subst e
  refine ⟨.ref a, rfl, ⟨a, C, [.str m], rfl, Nat.le_of_ble_eq_true rfl, T, ha, ?_⟩⟩
  refine ⟨y, rfl, .ref a, rfl, a, C, rfl, T, hno, .inl ⟨ha, fun dx h1 h2 => ?_⟩⟩
  refine ⟨z, rfl, .ref a, rfl, a, C, rfl, T, hno2, .inr ⟨dx, [(fld, y)], upd_same, by rw [upd_ne h2]; exact upd_same, Nat.le_of_ble_eq_true rfl, ?_⟩⟩
  have e : upd (upd (upd H dx (exd dx [(fld, y)])) a (exo a C (some dx))) dx (exd dx [(gld, z), (fld, y)]) = upd (upd H dx (exd dx [(gld, z), (fld, y)])) a (exo a C (some dx)) := by
    funext b
    by_cases hb : b = dx
    · subst hb; rw [upd_same, upd_ne h2, upd_same]
    · rw [upd_ne hb]
      by_cases hba : b = a
      · subst hba; rw [upd_same, upd_same]
      · rw [upd_ne hba, upd_ne hba, upd_ne hb, upd_ne hb]
  rw [e]
  exact q dx h1 h2
end
/-- a class of exceptions of the text: at C, what its own __init__ keeps -/
structure XCallee (P : Program) (w : World) (K : PySem.W.Frag) (mg : Str → Option Value) (base : Heap) (x : Str) (C : Addr) (ps : List Str) (sp : Sp) : Prop where
  oc : OexC K C
  ex : ∃ fI fd, PySem.W.findIn K (.ref C) "__init__" = some (some (.ref fI)) ∧ PySem.W.typeIn K (.ref fI) = some (.type "function") ∧ FnOk P w K mg base CX0 1 fI fd ps sp ∧ Binds K fd ps []
  mg : mg x = some (.ref C)
/-- what is asked of a class of exceptions, all at one time -/
def xokB (K : PySem.W.Frag) (C : Addr) (fs : List Str) : Bool :=
  decide (PySem.W.findIn K (.ref C) "__getattribute__" = some (some (.builtin "BaseException.__getattribute__"))) && (decide (PySem.W.findIn K (.ref C) "__getattr__" = some none) && (decide (PySem.W.subIn K (.ref C) (.type "BaseException") = some true) && (PySem.W.hasDictIn K C &&
  ((PySem.W.clsIn K C).isSome && (decide (PySem.W.findIn K (.ref C) "__class__" = some (some (.builtin "object.__class__"))) && (decide (PySem.W.specialIn K (.builtin "object.__class__") "__get__" = some (some (.builtin "getset_descriptor.__get__"))) &&
  (decide (PySem.W.takesIn K (.builtin "object.__class__") = some true) && (decide (PySem.W.mroIn K C (.type "object") = some true) && fs.all fun f => decide (PySem.W.findIn K (.ref C) f = some none)))))))))
structure XOk' (K : PySem.W.Frag) (C : Addr) (fs : List Str) : Prop where
  xf : XfC K C
  xi : XiC K C
  no : ∀ f ∈ fs, PySem.W.findIn K (.ref C) f = some none
theorem xok_of {K : PySem.W.Frag} {C : Addr} {fs : List Str} (h : xokB K C fs = true) : XOk' K C fs := by
  obtain ⟨h1, h⟩ := Bool.and_eq_true_iff.mp h
  obtain ⟨h2, h⟩ := Bool.and_eq_true_iff.mp h
  obtain ⟨h3, h⟩ := Bool.and_eq_true_iff.mp h
  obtain ⟨h4, h⟩ := Bool.and_eq_true_iff.mp h
  obtain ⟨h5, h⟩ := Bool.and_eq_true_iff.mp h
  obtain ⟨h6, h⟩ := Bool.and_eq_true_iff.mp h
  obtain ⟨h7, h⟩ := Bool.and_eq_true_iff.mp h
  obtain ⟨h8, h⟩ := Bool.and_eq_true_iff.mp h
  obtain ⟨h9, h⟩ := Bool.and_eq_true_iff.mp h
  exact ⟨⟨of_decide_eq_true h1, of_decide_eq_true h2, of_decide_eq_true h3, h4⟩, ⟨h5, of_decide_eq_true h1, of_decide_eq_true h2, of_decide_eq_true h3, of_decide_eq_true h6, of_decide_eq_true h7, of_decide_eq_true h8, of_decide_eq_true h9⟩,
    fun f hf => of_decide_eq_true (List.all_eq_true.mp h f hf)⟩
section
variable {X : Cx} {P : Program} {w : World} (K : PySem.W.Frag) {mg : Str → Option Value} {base : Heap} {x : Str} {C : Addr} {j : Nat} {ps : List Str} {sp : Sp} {p pos : Pos} {e : Expr} {es : List Expr} {t : TA}
theorem k_exv (c : XCallee P w K mg base x C ps sp) (hr : Room j X.A) (hk : 2 ≤ j) (hg : Gl X x) (ha : PA X (e :: es) t) (hdb : (x == ("__debug__" : Str)) = false := by decide)
    (he : starEach (e :: es) X.env = (false, eval e X.env) :: starEach es X.env := by rfl) (hpl : (backTo pos (starEach es X.env)).any (·.1) = false := by rfl) (hx : Passes CX0 X E0 := by exact pass0)
    (hX : X.prog = P ∧ X.w = w ∧ X.K = K ∧ X.mg = mg ∧ X.base = base := by exact ⟨rfl, rfl, rfl, rfl, rfl⟩) :
    PE X (.Call (.Name x p) (e :: es) [] pos) (tExv C sp t) := by
  obtain ⟨rfl, rfl, rfl, rfl, rfl⟩ := hX
  obtain ⟨fI, fd, iC, tI, F, b⟩ := c.ex
  exact pe_exv c.oc iC tI F (hr.mono hk) b hx hg c.mg ha hdb he hpl
theorem k_xv {n : Str} {te : TE} (he : PE X e te) (hb : attributeBase e n X.env (eval e X.env) = eval e X.env := by rfl) (hK : X.K = K := by rfl) : PE X (.Attribute e n pos) (tXv K te n) := by subst hK; exact pe_xv he hb
end
def rIsiX (K : PySem.W.Frag) : List V → Hp → VK → Prop := fun xs H Q => rIsi K xs H Q ∨ rIsX K xs H Q
theorem k_isiX {X : Cx} (K : PySem.W.Frag) (hK : X.K = K := by rfl) : CallR X (.builtin "isinstance") (rIsiX K) := by
  subst hK
  intro pins s σ H xs us Q I r h
  rcases h with h | h
  · exact call_isi _ _ _ _ _ _ _ I r h
  · exact call_isX _ _ _ _ _ _ _ I r h
section
variable {K : PySem.W.Frag} {Γ : Sl} {te : TE} {ta : TA} {d : D} {C : Addr} {f g : Str}
theorem ca_isL {xs : List D} {d : D} (h : Ca K (rIsi K) xs d) : Ca K (rIsiX K) xs d := fun I H us e r Q q => .inl (h I H us e r Q q)
theorem ca_isR {D0 C0 : Addr} {ns : List Str} {ds : List D} {b : Bool} (xi : XiC K D0) (hk : PySem.W.kitOne K (.ref D0) (.ref C0) = some b) : Ca K (rIsiX K) [.exn D0 ns ds, .ref C0] (.bl b) := fun I H us e r Q q => by
  cases r with
  | cons r1 r =>
    cases r with
    | cons r2 r =>
      cases r
      cases r2
      cases r1 with
      | exn h1 h2 hl hr => exact .inr ⟨_, _, _, _, _, _, _, rfl, fun u hu => hu, xi, e _ _ h1, e _ _ h2, hk, q I H _ (Gr.refl e) (.bl b)⟩
theorem ca_isRT {D0 : Addr} {n : String} {ns : List Str} {ds : List D} {b : Bool} (xi : XiC K D0) (hk : PySem.W.kitOne K (.ref D0) (.type n) = some b) : Ca K (rIsiX K) [.exn D0 ns ds, .ty n] (.bl b) := fun I H us e r Q q => by
  cases r with
  | cons r1 r =>
    cases r with
    | cons r2 r =>
      cases r
      cases r2
      cases r1 with
      | exn h1 h2 hl hr => exact .inr ⟨_, _, _, _, _, _, _, rfl, fun u hu => hu, xi, e _ _ h1, e _ _ h2, hk, q I H _ (Gr.refl e) (.bl b)⟩
theorem lk_put {α : Type} (f g : Str) (y : α) (fs : List (Str × α)) : ((f, y) :: fs).lookup g = if g = f then some y else fs.lookup g := by
  by_cases h : g = f
  · subst h; simp [List.lookup]
  · have e : (g == f) = false := by simpa using h
    rw [if_neg h]; simp [List.lookup, e]
theorem lk_zip {I : Hp} {f : Str} : ∀ {ns : List Str} {vs : List V} {ds : List D} {d : D}, Rps K I vs ds → (ns.zip ds).lookup f = some d → ∃ v, (ns.zip vs).lookup f = some v ∧ Rp K I v d
  | [], _, _, _, _, h => by simp at h
  | _ :: _, _, _, _, .nil, h => by simp at h
  | n :: ns, _, _, d, .cons (v := v) (d := d') r rs, h => by
    rw [List.zip_cons_cons, lk_put] at h
    rw [List.zip_cons_cons, lk_put]
    by_cases e : f = n
    · rw [if_pos e] at h ⊢; cases h; exact ⟨v, rfl, r⟩
    · rw [if_neg e] at h ⊢; exact lk_zip rs h
/-- the fields as they stand: the last one set first -/
theorem e_exv (ha : EA K Γ ta [d]) : E K Γ (tExv C (spI C f) ta) (.exn C [f] [d]) := fun I σ H as e l Q q => by
  refine ha I σ H as e l _ fun I1 H1 vs g1 r1 => ⟨by rw [r1.length]; exact Nat.le_of_ble_eq_true rfl, fun a hn => ?_⟩
  cases r1 with
  | cons r r' =>
    cases r'
    rename_i y
    refine ⟨a, y, rfl, upd_same, fun dx h1 h2 => ⟨rfl, ?_⟩⟩
    rw [upd_ne h2] at h1
    have ee : upd (upd (upd H1 a (exo a C none)) dx (exd dx [(f, y)])) a (exo a C (some dx)) = upd (upd H1 dx (exd dx [(f, y)])) a (exo a C (some dx)) := by
      funext b
      by_cases hb : b = a
      · subst hb; rw [upd_same, upd_same]
      · rw [upd_ne hb, upd_ne hb]
        by_cases hd : b = dx
        · subst hd; rw [upd_same, upd_same]
        · rw [upd_ne hd, upd_ne hd, upd_ne hb]
    rw [ee]
    have gA := Gr.new (m := []) (o := exd dx [(f, y)]) g1.ih h1
    have hna : upd H1 dx (exd dx [(f, y)]) a = none := by rw [upd_ne (Ne.symm h2)]; exact hn
    have gB := Gr.new (m := []) (o := exo a C (some dx)) gA.ih hna
    refine q _ _ _ ((g1.trans gA).trans gB) (.exn (xs := [y]) upd_same ?_ rfl (.cons (r.mono (gA.trans gB).i) .nil))
    rw [upd_ne h2]; exact upd_same
theorem e_exv2 {d2 : D} (ha : EA K Γ ta [d, d2]) : E K Γ (tExv C (spI2 C f g) ta) (.exn C [g, f] [d2, d]) := fun I σ H as e l Q q => by
  refine ha I σ H as e l _ fun I1 H1 vs g1 r1 => ⟨by rw [r1.length]; exact Nat.le_of_ble_eq_true rfl, fun a hn => ?_⟩
  cases r1 with
  | cons r r' =>
    cases r' with
    | cons rz r' =>
    cases r'
    rename_i y z
    refine ⟨a, y, z, rfl, upd_same, fun dx h1 h2 => ⟨rfl, ?_⟩⟩
    rw [upd_ne h2] at h1
    have ee : upd (upd (upd H1 a (exo a C none)) dx (exd dx [(g, z), (f, y)])) a (exo a C (some dx)) = upd (upd H1 dx (exd dx [(g, z), (f, y)])) a (exo a C (some dx)) := by
      funext b
      by_cases hb : b = a
      · subst hb; rw [upd_same, upd_same]
      · rw [upd_ne hb, upd_ne hb]
        by_cases hd : b = dx
        · subst hd; rw [upd_same, upd_same]
        · rw [upd_ne hd, upd_ne hd, upd_ne hb]
    rw [ee]
    have gA := Gr.new (m := []) (o := exd dx [(g, z), (f, y)]) g1.ih h1
    have hna : upd H1 dx (exd dx [(g, z), (f, y)]) a = none := by rw [upd_ne (Ne.symm h2)]; exact hn
    have gB := Gr.new (m := []) (o := exo a C (some dx)) gA.ih hna
    refine q _ _ _ ((g1.trans gA).trans gB) (.exn (xs := [z, y]) upd_same ?_ rfl (.cons (rz.mono (gA.trans gB).i) (.cons (r.mono (gA.trans gB).i) .nil)))
    rw [upd_ne h2]; exact upd_same
theorem e_xv {ns : List Str} {ds : List D} {fl : List Str} (h : E K Γ te (.exn C ns ds)) (x : XOk' K C fl) (hf : f ∈ fl) (hl : (ns.zip ds).lookup f = some d) : E K Γ (tXv K te f) d := fun I σ H as e l Q q =>
  h I σ H as e l _ fun I1 H1 v g1 r1 => by
    cases r1 with
    | exn h1 h2 hn hr =>
      obtain ⟨v, hv, rv⟩ := lk_zip hr hl
      exact ⟨_, _, _, _, _, rfl, x.xf, x.no f hf, g1.ih _ _ h1, g1.ih _ _ h2, hv, q _ _ _ g1 rv⟩
end
end G

namespace G
open PySem PySem.Spec L2

def topS (i : Nat) : Stmt := PySem.Challenge.pw_rulestable_k03_refusals.main.body.getD i (.Pass ⟨0, 0, 0, 0⟩)
abbrev s__law_cell : Stmt := topS 20
abbrev s__law_stir : Stmt := topS 21
abbrev s__law_made : Stmt := topS 22
abbrev s__law_kinds : Stmt := topS 23
abbrev s__law_kept : Stmt := topS 24
abbrev s__law_same : Stmt := topS 25
abbrev s_law : Stmt := topS 26
theorem bt_ValueError : bootBuiltins "ValueError" = some (.type "ValueError") := by decide +kernel
theorem bt_bool : bootBuiltins "bool" = some (.type "bool") := by decide +kernel
theorem bt_enumerate : bootBuiltins "enumerate" = some (.type "enumerate") := by decide +kernel
theorem bt_isinstance : bootBuiltins "isinstance" = some (.builtin "isinstance") := by decide +kernel
theorem bt_len : bootBuiltins "len" = some (.builtin "len") := by decide +kernel
theorem bt_range : bootBuiltins "range" = some (.type "range") := by decide +kernel
def fieldsOf (i : Nat) : List Str := ([[], ["found"], ["found"], ["found"], ["line"], ["found"], ["found"], ["found"], ["found"], ["line"], ["head"], ["number"], ["found"], ["number"], ["head"], ["state", "ahead"], ["state"], ["place"]] : List (List Str)).getD i []
structure Txt (K : PySem.W.Frag) (cs : List Addr) (mg : Str → Option Value) : Prop where
  b_ValueError : mg "ValueError" = none
  b_bool : mg "bool" = none
  b_enumerate : mg "enumerate" = none
  b_isinstance : mg "isinstance" = none
  b_len : mg "len" = none
  b_range : mg "range" = none
  xo : ∀ i, 1 ≤ i → i < 18 → XOk' K (cs.getD i 0) (fieldsOf i)
  g_TableError : GlobIs mg "TableError" (.ref (cs.getD 0 0))
  g_NoRule : GlobIs mg "NoRule" (.ref (cs.getD 1 0))
  g_NoRanks : GlobIs mg "NoRanks" (.ref (cs.getD 2 0))
  g_NoSymbol : GlobIs mg "NoSymbol" (.ref (cs.getD 3 0))
  g_NoText : GlobIs mg "NoText" (.ref (cs.getD 4 0))
  g_NoTree : GlobIs mg "NoTree" (.ref (cs.getD 5 0))
  g_NoRow : GlobIs mg "NoRow" (.ref (cs.getD 6 0))
  g_NoItem : GlobIs mg "NoItem" (.ref (cs.getD 7 0))
  g_NoPrice : GlobIs mg "NoPrice" (.ref (cs.getD 8 0))
  g_NoLine : GlobIs mg "NoLine" (.ref (cs.getD 9 0))
  g_NoHead : GlobIs mg "NoHead" (.ref (cs.getD 10 0))
  g_Doubled : GlobIs mg "Doubled" (.ref (cs.getD 11 0))
  g_TooMany : GlobIs mg "TooMany" (.ref (cs.getD 12 0))
  g_Dead : GlobIs mg "Dead" (.ref (cs.getD 13 0))
  g_Vast : GlobIs mg "Vast" (.ref (cs.getD 14 0))
  g_Open : GlobIs mg "Open" (.ref (cs.getD 15 0))
  g_NoState : GlobIs mg "NoState" (.ref (cs.getD 16 0))
  g_NoPlace : GlobIs mg "NoPlace" (.ref (cs.getD 17 0))
  m_T : mg "TableError" = some (.ref (cs.getD 0 0))
  r_T : ClX.CRead K (cs.getD 0 0) (.type "type")
  v_T : PySem.W.findCls K (.ref (cs.getD 0 0)) (.type "type") "__init__" = some (.val (.builtin "ValueError.__init__"))
  kit : ∀ i j, 1 ≤ i → i < 18 → j < 18 → PySem.W.kitOne K (.ref (cs.getD i 0)) (.ref (cs.getD j 0)) = some (i == j || j == 0)
  kitV : ∀ i, 1 ≤ i → i < 18 → PySem.W.kitOne K (.ref (cs.getD i 0)) (.type "ValueError") = some true
def kitT (K : PySem.W.Frag) (cs : List Addr) : Bool := (List.range 18).all fun i => i == 0 || (((List.range 18).all fun j => PySem.W.kitOne K (.ref (cs.getD i 0)) (.ref (cs.getD j 0)) == some (i == j || j == 0)) && PySem.W.kitOne K (.ref (cs.getD i 0)) (.type "ValueError") == some true)
def xoT (K : PySem.W.Frag) (cs : List Addr) : Bool := (List.range 18).all fun i => i == 0 || xokB K (cs.getD i 0) (fieldsOf i)
theorem xo_of {K : PySem.W.Frag} {cs : List Addr} (h : xoT K cs = true) (i : Nat) (h1 : 1 ≤ i) (h2 : i < 18) : XOk' K (cs.getD i 0) (fieldsOf i) := by
  have a := List.all_eq_true.mp h i (List.mem_range.mpr h2)
  have e : (i == 0) = false := by simp; omega
  rw [e, Bool.false_or] at a
  exact xok_of a
theorem kit_all {K : PySem.W.Frag} {cs : List Addr} (h : kitT K cs = true) {i : Nat} (h1 : 1 ≤ i) (h2 : i < 18) : (∀ j, j < 18 → PySem.W.kitOne K (.ref (cs.getD i 0)) (.ref (cs.getD j 0)) = some (i == j || j == 0)) ∧ PySem.W.kitOne K (.ref (cs.getD i 0)) (.type "ValueError") = some true := by
  have a := List.all_eq_true.mp h i (List.mem_range.mpr h2)
  have e : (i == 0) = false := by simp; omega
  rw [e, Bool.false_or, Bool.and_eq_true] at a
  exact ⟨fun j hj => beq_iff_eq.mp (List.all_eq_true.mp a.1 j (List.mem_range.mpr hj)), beq_iff_eq.mp a.2⟩
theorem kit_of {K : PySem.W.Frag} {cs : List Addr} (h : kitT K cs = true) (i j : Nat) (h1 : 1 ≤ i) (h2 : i < 18) (h3 : j < 18) : PySem.W.kitOne K (.ref (cs.getD i 0)) (.ref (cs.getD j 0)) = some (i == j || j == 0) := (kit_all h h1 h2).1 j h3
theorem kitV_of {K : PySem.W.Frag} {cs : List Addr} (h : kitT K cs = true) (i : Nat) (h1 : 1 ≤ i) (h2 : i < 18) : PySem.W.kitOne K (.ref (cs.getD i 0)) (.type "ValueError") = some true := (kit_all h h1 h2).2
def clsM (i j : Nat) : Stmt := match topS i with | .ClassDef _ _ _ b _ _ _ _ _ _ _ => b.getD j (.Pass ⟨0, 0, 0, 0⟩) | _ => .Pass ⟨0, 0, 0, 0⟩
theorem sci_NoRule : FnScope ["self", "found"] ["self", "found"] (defScope (clsM 2 0)) := ⟨rfl, rfl, rfl, by decide +kernel, rfl, by decide +kernel, by decide +kernel⟩
theorem oki_NoRule {P : Program} {w : World} {K : PySem.W.Frag} {mg : Str → Option Value} {base : Heap} {cs : List Addr} {C fI : Addr} {fd : FuncData} (T : Txt K cs mg) (F : Fun K "__init__" "NoRule.__init__" (clsM 2 0) fI fd) (O : OexC K C) (x : XOk' K C ["found"]) : FnOk P w K mg base CX0 1 fI fd ["self", "found"] (spI C "found") :=
  ok_init (m := Str.ofString "no rule") F sci_NoRule O (x.no _ (by simp)) (fun cdv A outer s H E => pss_cons (ps_expr (pe_teinit (by rfl) T.m_T T.r_T T.v_T (pa_cons (pv 0) (pa_cons pe_str pa_nil)))) (pss_one (ps_ost (pv 0) (pv 1))))
theorem sci_NoRanks : FnScope ["self", "found"] ["self", "found"] (defScope (clsM 3 0)) := ⟨rfl, rfl, rfl, by decide +kernel, rfl, by decide +kernel, by decide +kernel⟩
theorem oki_NoRanks {P : Program} {w : World} {K : PySem.W.Frag} {mg : Str → Option Value} {base : Heap} {cs : List Addr} {C fI : Addr} {fd : FuncData} (T : Txt K cs mg) (F : Fun K "__init__" "NoRanks.__init__" (clsM 3 0) fI fd) (O : OexC K C) (x : XOk' K C ["found"]) : FnOk P w K mg base CX0 1 fI fd ["self", "found"] (spI C "found") :=
  ok_init (m := Str.ofString "no ranks") F sci_NoRanks O (x.no _ (by simp)) (fun cdv A outer s H E => pss_cons (ps_expr (pe_teinit (by rfl) T.m_T T.r_T T.v_T (pa_cons (pv 0) (pa_cons pe_str pa_nil)))) (pss_one (ps_ost (pv 0) (pv 1))))
theorem sci_NoSymbol : FnScope ["self", "found"] ["self", "found"] (defScope (clsM 4 0)) := ⟨rfl, rfl, rfl, by decide +kernel, rfl, by decide +kernel, by decide +kernel⟩
theorem oki_NoSymbol {P : Program} {w : World} {K : PySem.W.Frag} {mg : Str → Option Value} {base : Heap} {cs : List Addr} {C fI : Addr} {fd : FuncData} (T : Txt K cs mg) (F : Fun K "__init__" "NoSymbol.__init__" (clsM 4 0) fI fd) (O : OexC K C) (x : XOk' K C ["found"]) : FnOk P w K mg base CX0 1 fI fd ["self", "found"] (spI C "found") :=
  ok_init (m := Str.ofString "no symbol") F sci_NoSymbol O (x.no _ (by simp)) (fun cdv A outer s H E => pss_cons (ps_expr (pe_teinit (by rfl) T.m_T T.r_T T.v_T (pa_cons (pv 0) (pa_cons pe_str pa_nil)))) (pss_one (ps_ost (pv 0) (pv 1))))
theorem sci_NoText : FnScope ["self", "line"] ["self", "line"] (defScope (clsM 5 0)) := ⟨rfl, rfl, rfl, by decide +kernel, rfl, by decide +kernel, by decide +kernel⟩
theorem oki_NoText {P : Program} {w : World} {K : PySem.W.Frag} {mg : Str → Option Value} {base : Heap} {cs : List Addr} {C fI : Addr} {fd : FuncData} (T : Txt K cs mg) (F : Fun K "__init__" "NoText.__init__" (clsM 5 0) fI fd) (O : OexC K C) (x : XOk' K C ["line"]) : FnOk P w K mg base CX0 1 fI fd ["self", "line"] (spI C "line") :=
  ok_init (m := Str.ofString "no such row of text") F sci_NoText O (x.no _ (by simp)) (fun cdv A outer s H E => pss_cons (ps_expr (pe_teinit (by rfl) T.m_T T.r_T T.v_T (pa_cons (pv 0) (pa_cons pe_str pa_nil)))) (pss_one (ps_ost (pv 0) (pv 1))))
theorem sci_NoTree : FnScope ["self", "found"] ["self", "found"] (defScope (clsM 6 0)) := ⟨rfl, rfl, rfl, by decide +kernel, rfl, by decide +kernel, by decide +kernel⟩
theorem oki_NoTree {P : Program} {w : World} {K : PySem.W.Frag} {mg : Str → Option Value} {base : Heap} {cs : List Addr} {C fI : Addr} {fd : FuncData} (T : Txt K cs mg) (F : Fun K "__init__" "NoTree.__init__" (clsM 6 0) fI fd) (O : OexC K C) (x : XOk' K C ["found"]) : FnOk P w K mg base CX0 1 fI fd ["self", "found"] (spI C "found") :=
  ok_init (m := Str.ofString "no tree") F sci_NoTree O (x.no _ (by simp)) (fun cdv A outer s H E => pss_cons (ps_expr (pe_teinit (by rfl) T.m_T T.r_T T.v_T (pa_cons (pv 0) (pa_cons pe_str pa_nil)))) (pss_one (ps_ost (pv 0) (pv 1))))
theorem sci_NoRow : FnScope ["self", "found"] ["self", "found"] (defScope (clsM 7 0)) := ⟨rfl, rfl, rfl, by decide +kernel, rfl, by decide +kernel, by decide +kernel⟩
theorem oki_NoRow {P : Program} {w : World} {K : PySem.W.Frag} {mg : Str → Option Value} {base : Heap} {cs : List Addr} {C fI : Addr} {fd : FuncData} (T : Txt K cs mg) (F : Fun K "__init__" "NoRow.__init__" (clsM 7 0) fI fd) (O : OexC K C) (x : XOk' K C ["found"]) : FnOk P w K mg base CX0 1 fI fd ["self", "found"] (spI C "found") :=
  ok_init (m := Str.ofString "no row of signs") F sci_NoRow O (x.no _ (by simp)) (fun cdv A outer s H E => pss_cons (ps_expr (pe_teinit (by rfl) T.m_T T.r_T T.v_T (pa_cons (pv 0) (pa_cons pe_str pa_nil)))) (pss_one (ps_ost (pv 0) (pv 1))))
theorem sci_NoItem : FnScope ["self", "found"] ["self", "found"] (defScope (clsM 8 0)) := ⟨rfl, rfl, rfl, by decide +kernel, rfl, by decide +kernel, by decide +kernel⟩
theorem oki_NoItem {P : Program} {w : World} {K : PySem.W.Frag} {mg : Str → Option Value} {base : Heap} {cs : List Addr} {C fI : Addr} {fd : FuncData} (T : Txt K cs mg) (F : Fun K "__init__" "NoItem.__init__" (clsM 8 0) fI fd) (O : OexC K C) (x : XOk' K C ["found"]) : FnOk P w K mg base CX0 1 fI fd ["self", "found"] (spI C "found") :=
  ok_init (m := Str.ofString "no item") F sci_NoItem O (x.no _ (by simp)) (fun cdv A outer s H E => pss_cons (ps_expr (pe_teinit (by rfl) T.m_T T.r_T T.v_T (pa_cons (pv 0) (pa_cons pe_str pa_nil)))) (pss_one (ps_ost (pv 0) (pv 1))))
theorem sci_NoPrice : FnScope ["self", "found"] ["self", "found"] (defScope (clsM 9 0)) := ⟨rfl, rfl, rfl, by decide +kernel, rfl, by decide +kernel, by decide +kernel⟩
theorem oki_NoPrice {P : Program} {w : World} {K : PySem.W.Frag} {mg : Str → Option Value} {base : Heap} {cs : List Addr} {C fI : Addr} {fd : FuncData} (T : Txt K cs mg) (F : Fun K "__init__" "NoPrice.__init__" (clsM 9 0) fI fd) (O : OexC K C) (x : XOk' K C ["found"]) : FnOk P w K mg base CX0 1 fI fd ["self", "found"] (spI C "found") :=
  ok_init (m := Str.ofString "no price") F sci_NoPrice O (x.no _ (by simp)) (fun cdv A outer s H E => pss_cons (ps_expr (pe_teinit (by rfl) T.m_T T.r_T T.v_T (pa_cons (pv 0) (pa_cons pe_str pa_nil)))) (pss_one (ps_ost (pv 0) (pv 1))))
theorem sci_NoLine : FnScope ["self", "line"] ["self", "line"] (defScope (clsM 10 0)) := ⟨rfl, rfl, rfl, by decide +kernel, rfl, by decide +kernel, by decide +kernel⟩
theorem oki_NoLine {P : Program} {w : World} {K : PySem.W.Frag} {mg : Str → Option Value} {base : Heap} {cs : List Addr} {C fI : Addr} {fd : FuncData} (T : Txt K cs mg) (F : Fun K "__init__" "NoLine.__init__" (clsM 10 0) fI fd) (O : OexC K C) (x : XOk' K C ["line"]) : FnOk P w K mg base CX0 1 fI fd ["self", "line"] (spI C "line") :=
  ok_init (m := Str.ofString "no such line") F sci_NoLine O (x.no _ (by simp)) (fun cdv A outer s H E => pss_cons (ps_expr (pe_teinit (by rfl) T.m_T T.r_T T.v_T (pa_cons (pv 0) (pa_cons pe_str pa_nil)))) (pss_one (ps_ost (pv 0) (pv 1))))
theorem sci_NoHead : FnScope ["self", "head"] ["self", "head"] (defScope (clsM 11 0)) := ⟨rfl, rfl, rfl, by decide +kernel, rfl, by decide +kernel, by decide +kernel⟩
theorem oki_NoHead {P : Program} {w : World} {K : PySem.W.Frag} {mg : Str → Option Value} {base : Heap} {cs : List Addr} {C fI : Addr} {fd : FuncData} (T : Txt K cs mg) (F : Fun K "__init__" "NoHead.__init__" (clsM 11 0) fI fd) (O : OexC K C) (x : XOk' K C ["head"]) : FnOk P w K mg base CX0 1 fI fd ["self", "head"] (spI C "head") :=
  ok_init (m := Str.ofString "a head without a rule") F sci_NoHead O (x.no _ (by simp)) (fun cdv A outer s H E => pss_cons (ps_expr (pe_teinit (by rfl) T.m_T T.r_T T.v_T (pa_cons (pv 0) (pa_cons pe_str pa_nil)))) (pss_one (ps_ost (pv 0) (pv 1))))
theorem sci_Doubled : FnScope ["self", "number"] ["self", "number"] (defScope (clsM 12 0)) := ⟨rfl, rfl, rfl, by decide +kernel, rfl, by decide +kernel, by decide +kernel⟩
theorem oki_Doubled {P : Program} {w : World} {K : PySem.W.Frag} {mg : Str → Option Value} {base : Heap} {cs : List Addr} {C fI : Addr} {fd : FuncData} (T : Txt K cs mg) (F : Fun K "__init__" "Doubled.__init__" (clsM 12 0) fI fd) (O : OexC K C) (x : XOk' K C ["number"]) : FnOk P w K mg base CX0 1 fI fd ["self", "number"] (spI C "number") :=
  ok_init (m := Str.ofString "a rule told twice") F sci_Doubled O (x.no _ (by simp)) (fun cdv A outer s H E => pss_cons (ps_expr (pe_teinit (by rfl) T.m_T T.r_T T.v_T (pa_cons (pv 0) (pa_cons pe_str pa_nil)))) (pss_one (ps_ost (pv 0) (pv 1))))
theorem sci_TooMany : FnScope ["self", "found"] ["self", "found"] (defScope (clsM 13 0)) := ⟨rfl, rfl, rfl, by decide +kernel, rfl, by decide +kernel, by decide +kernel⟩
theorem oki_TooMany {P : Program} {w : World} {K : PySem.W.Frag} {mg : Str → Option Value} {base : Heap} {cs : List Addr} {C fI : Addr} {fd : FuncData} (T : Txt K cs mg) (F : Fun K "__init__" "TooMany.__init__" (clsM 13 0) fI fd) (O : OexC K C) (x : XOk' K C ["found"]) : FnOk P w K mg base CX0 1 fI fd ["self", "found"] (spI C "found") :=
  ok_init (m := Str.ofString "more than there may be") F sci_TooMany O (x.no _ (by simp)) (fun cdv A outer s H E => pss_cons (ps_expr (pe_teinit (by rfl) T.m_T T.r_T T.v_T (pa_cons (pv 0) (pa_cons pe_str pa_nil)))) (pss_one (ps_ost (pv 0) (pv 1))))
theorem sci_Dead : FnScope ["self", "number"] ["self", "number"] (defScope (clsM 14 0)) := ⟨rfl, rfl, rfl, by decide +kernel, rfl, by decide +kernel, by decide +kernel⟩
theorem oki_Dead {P : Program} {w : World} {K : PySem.W.Frag} {mg : Str → Option Value} {base : Heap} {cs : List Addr} {C fI : Addr} {fd : FuncData} (T : Txt K cs mg) (F : Fun K "__init__" "Dead.__init__" (clsM 14 0) fI fd) (O : OexC K C) (x : XOk' K C ["number"]) : FnOk P w K mg base CX0 1 fI fd ["self", "number"] (spI C "number") :=
  ok_init (m := Str.ofString "a rule of no use") F sci_Dead O (x.no _ (by simp)) (fun cdv A outer s H E => pss_cons (ps_expr (pe_teinit (by rfl) T.m_T T.r_T T.v_T (pa_cons (pv 0) (pa_cons pe_str pa_nil)))) (pss_one (ps_ost (pv 0) (pv 1))))
theorem sci_Vast : FnScope ["self", "head"] ["self", "head"] (defScope (clsM 15 0)) := ⟨rfl, rfl, rfl, by decide +kernel, rfl, by decide +kernel, by decide +kernel⟩
theorem oki_Vast {P : Program} {w : World} {K : PySem.W.Frag} {mg : Str → Option Value} {base : Heap} {cs : List Addr} {C fI : Addr} {fd : FuncData} (T : Txt K cs mg) (F : Fun K "__init__" "Vast.__init__" (clsM 15 0) fI fd) (O : OexC K C) (x : XOk' K C ["head"]) : FnOk P w K mg base CX0 1 fI fd ["self", "head"] (spI C "head") :=
  ok_init (m := Str.ofString "no small tree") F sci_Vast O (x.no _ (by simp)) (fun cdv A outer s H E => pss_cons (ps_expr (pe_teinit (by rfl) T.m_T T.r_T T.v_T (pa_cons (pv 0) (pa_cons pe_str pa_nil)))) (pss_one (ps_ost (pv 0) (pv 1))))
theorem sci_Open : FnScope ["self", "state", "ahead"] ["self", "state", "ahead"] (defScope (clsM 16 0)) := ⟨rfl, rfl, rfl, by decide +kernel, rfl, by decide +kernel, by decide +kernel⟩
theorem oki_Open {P : Program} {w : World} {K : PySem.W.Frag} {mg : Str → Option Value} {base : Heap} {cs : List Addr} {C fI : Addr} {fd : FuncData} (T : Txt K cs mg) (F : Fun K "__init__" "Open.__init__" (clsM 16 0) fI fd) (O : OexC K C) (x : XOk' K C ["state", "ahead"]) : FnOk P w K mg base CX0 1 fI fd ["self", "state", "ahead"] (spI2 C "state" "ahead") :=
  ok_init2 (m := Str.ofString "an open choice") F sci_Open O (x.no _ (by simp)) (x.no _ (by simp)) (fun cdv A outer s H E => pss_cons (ps_expr (pe_teinit (by rfl) T.m_T T.r_T T.v_T (pa_cons (pv 0) (pa_cons pe_str pa_nil)))) (pss_cons (ps_ost (pv 0) (pv 1)) (pss_one (ps_ost (pv 0) (pv 2)))))
theorem sci_NoState : FnScope ["self", "state"] ["self", "state"] (defScope (clsM 17 0)) := ⟨rfl, rfl, rfl, by decide +kernel, rfl, by decide +kernel, by decide +kernel⟩
theorem oki_NoState {P : Program} {w : World} {K : PySem.W.Frag} {mg : Str → Option Value} {base : Heap} {cs : List Addr} {C fI : Addr} {fd : FuncData} (T : Txt K cs mg) (F : Fun K "__init__" "NoState.__init__" (clsM 17 0) fI fd) (O : OexC K C) (x : XOk' K C ["state"]) : FnOk P w K mg base CX0 1 fI fd ["self", "state"] (spI C "state") :=
  ok_init (m := Str.ofString "no state") F sci_NoState O (x.no _ (by simp)) (fun cdv A outer s H E => pss_cons (ps_expr (pe_teinit (by rfl) T.m_T T.r_T T.v_T (pa_cons (pv 0) (pa_cons pe_str pa_nil)))) (pss_one (ps_ost (pv 0) (pv 1))))
theorem sci_NoPlace : FnScope ["self", "place"] ["self", "place"] (defScope (clsM 18 0)) := ⟨rfl, rfl, rfl, by decide +kernel, rfl, by decide +kernel, by decide +kernel⟩
theorem oki_NoPlace {P : Program} {w : World} {K : PySem.W.Frag} {mg : Str → Option Value} {base : Heap} {cs : List Addr} {C fI : Addr} {fd : FuncData} (T : Txt K cs mg) (F : Fun K "__init__" "NoPlace.__init__" (clsM 18 0) fI fd) (O : OexC K C) (x : XOk' K C ["place"]) : FnOk P w K mg base CX0 1 fI fd ["self", "place"] (spI C "place") :=
  ok_init (m := Str.ofString "no place") F sci_NoPlace O (x.no _ (by simp)) (fun cdv A outer s H E => pss_cons (ps_expr (pe_teinit (by rfl) T.m_T T.r_T T.v_T (pa_cons (pv 0) (pa_cons pe_str pa_nil)))) (pss_one (ps_ost (pv 0) (pv 1))))
/-! ### steps (local) -/
local macro_rules | `(tactic| walk_at "sd") => `(tactic| first
  | assumption
  | (with_reducible rfl)
  | omega
  | (constructor <;> omega)
  | (simp only [sizeLine_eq] at *; omega)
  | decide)
local macro_rules | `(tactic| walk_at "bin") => `(tactic| first
  | (with_reducible exact bin_add_int)
  | (with_reducible exact bin_sub)
  | (with_reducible exact bin_eq_int)
  | (with_reducible exact bin_ne_int)
  | (with_reducible exact bin_lt)
  | (with_reducible exact bin_le)
  | (with_reducible exact bin_gt)
  | (with_reducible exact bin_ge)
  | (with_reducible exact bin_eq_str)
  | (with_reducible exact bin_ne_str)
  | (with_reducible exact bin_eq_bl)
  | (with_reducible exact bin_ne_bl)
  | (with_reducible exact bin_in_sg)
  | (with_reducible exact bin_ni_sg)
  | (with_reducible exact bin_le_s)
  | (with_reducible exact bin_lt_s)
  | ((with_reducible apply bin_mod); (focus (walk_at "sd")))
  | ((with_reducible apply bin_div); (focus (walk_at "sd")); (focus (walk_at "sd")))
  | ((with_reducible apply bin_mul64); (focus (walk_at "sd")); (focus (walk_at "sd")))
  | ((with_reducible apply bin_add_str); (focus (walk_at "sd")))
  | ((with_reducible apply bin_add_lst); (focus (walk_at "sd")))
  | ((with_reducible apply bin_add_tup); (focus (walk_at "sd")))
  | ((with_reducible apply bin_I); (focus (walk_at "sd")))
  | ((with_reducible apply bin_mul); (focus (walk_at "sd")))
  | ((with_reducible apply bin_ix_l .lst); (focus (walk_at "sd")))
  | ((with_reducible apply bin_ix_l .fl); (focus (walk_at "sd")))
  | ((with_reducible apply bin_ix_t); (focus (walk_at "sd")))
  | ((with_reducible apply bin_ix_s); (focus (walk_at "sd")); (focus (walk_at "sd")))
  | ((with_reducible apply bin_in_l .lst); (focus (walk_at "sd")); (focus (walk_at "sd")))
  | ((with_reducible apply bin_ni_l .lst); (focus (walk_at "sd")); (focus (walk_at "sd")))
  | ((with_reducible apply bin_in_t); (focus (walk_at "sd")); (focus (walk_at "sd")))
  | ((with_reducible apply bin_ni_t); (focus (walk_at "sd")); (focus (walk_at "sd"))))
local macro_rules | `(tactic| walk_at "ca") => `(tactic| first
  | ((with_reducible apply ca_is_int); (focus (walk_at "sd")))
  | ((with_reducible apply ca_is_bool); (focus (walk_at "sd")))
  | ((with_reducible apply ca_is_str); (focus (walk_at "sd")))
  | ((with_reducible apply ca_is_lst); (focus (walk_at "sd")))
  | ((with_reducible apply ca_is_tup); (focus (walk_at "sd")))
  | ((with_reducible apply ca_is_dic); (focus (walk_at "sd")))
  | (with_reducible exact ca_all .lst)
  | (with_reducible exact ca_any .lst)
  | (with_reducible exact ca_len_l .lst)
  | (with_reducible exact ca_len_l .fl)
  | (with_reducible exact ca_len_t)
  | (with_reducible exact ca_len_d)
  | (with_reducible exact ca_max2)
  | (with_reducible exact ca_min2)
  | (with_reducible exact ca_list .lst)
  | (with_reducible exact ca_list .fl)
  | (with_reducible exact ca_list_t)
  | (with_reducible exact ca_tuple .lst)
  | (with_reducible exact ca_tuple .fl)
  | (with_reducible exact ca_tuple_t)
  | ((with_reducible apply ca_len_s); (focus (walk_at "sd"))))
local macro_rules | `(tactic| walk_at "un") => `(tactic| first
  | (with_reducible exact un_neg'))
local macro_rules | `(tactic| walk_at "rel") => `(tactic| first
  | (constructor <;> walk_at "sd"))
local macro_rules | `(tactic| walk_at "ea") => `(tactic| first
  | (with_reducible exact ea_nil)
  | ((with_reducible apply ea_cons); (focus (walk_at "ev")); (focus (walk_at "ea"))))
local macro_rules | `(tactic| walk_at "ct") => `(tactic| first
  | ((with_reducible apply c_var); rfl))
local macro_rules | `(tactic| walk_at "eo") => `(tactic| first
  | (with_reducible exact eo_none)
  | ((with_reducible apply eo_some); (focus (walk_at "ev"))))
local macro_rules | `(tactic| walk_at "ev") => `(tactic| first
  | (with_reducible exact e_int)
  | (with_reducible exact e_str)
  | (with_reducible exact e_bl)
  | (with_reducible exact e_non)
  | (with_reducible exact e_ty)
  | ((with_reducible apply e_var); rfl)
  | ((with_reducible apply e_op); (focus (walk_at "ev")); (focus (walk_at "ev")); (focus (walk_at "bin")))
  | ((with_reducible apply e_ixC); (focus (walk_at "ct")); (focus (walk_at "ev")); (focus (walk_at "sd")))
  | ((with_reducible apply e_un); (focus (walk_at "ev")); (focus (walk_at "un")))
  | ((with_reducible apply e_cb); (focus (walk_at "ea")); (focus (walk_at "ca")))
  | ((with_reducible apply e_lenC); (focus (walk_at "ct")))
  | ((with_reducible apply e_call0); (focus (walk_at "ea")); (focus (walk_at "rel")))
  | ((with_reducible apply e_andV); (focus (walk_at "ev")); (focus (intro _; walk_at "ev")))
  | ((with_reducible apply e_orV); (focus (walk_at "ev")); (focus (intro _; walk_at "ev")))
  | ((with_reducible apply e_notV); (focus (walk_at "ev")))
  | ((with_reducible apply e_chain); (focus (walk_at "ev")); (focus (walk_at "ev")); (focus (intro _; walk_at "ev")); (focus (walk_at "bin")); (focus (intro _; walk_at "bin")))
  | ((with_reducible apply e_sl_l (hl := .lst)); (focus (walk_at "ev")); (focus (walk_at "eo")); (focus (walk_at "eo")))
  | ((with_reducible apply e_sl_l (hl := .fl)); (focus (walk_at "ev")); (focus (walk_at "eo")); (focus (walk_at "eo")))
  | ((with_reducible apply e_sl_s); (focus (walk_at "ev")); (focus (walk_at "eo")); (focus (walk_at "eo")); (focus (walk_at "sd")))
  | ((with_reducible apply e_sl_t); (focus (walk_at "ev")); (focus (walk_at "eo")); (focus (walk_at "eo")))
  | ((with_reducible apply e_slC); (focus (walk_at "ct")); (focus (walk_at "eo")); (focus (walk_at "eo")))
  | (with_reducible exact e_dnew)
  | ((with_reducible apply e_disp); (focus (walk_at "ep")); (focus (simp)); (focus (simp)))
  | ((with_reducible apply e_tup); (focus (walk_at "ea")); (focus (simp only [List.length_cons, List.length_nil, sizeLine_eq]; omega)))
  | ((with_reducible apply e_lst); (focus (walk_at "ea")); (focus (simp only [List.length_cons, List.length_nil, sizeLine_eq]; omega))))
local macro_rules | `(tactic| walk_at "ep") => `(tactic| first
  | (with_reducible exact ep_nil)
  | ((with_reducible apply ep_str); (focus (walk_at "ev")); (focus (walk_at "ev")); (focus (walk_at "ep")))
  | ((with_reducible apply ep_int); (focus (walk_at "ev")); (focus (walk_at "ev")); (focus (walk_at "ep"))))
local macro_rules | `(tactic| walk_at "le") => `(tactic| first
  | exact Le.nil
  | (apply Le.same; walk_at "le")
  | (apply Le.none; walk_at "le"))
local macro_rules | `(tactic| walk_at "tv") => `(tactic| first
  | ((with_reducible apply t_test); (focus (walk_at "ev")))
  | ((with_reducible apply t_b); (focus (walk_at "ev")))
  | ((with_reducible apply t_not); (focus (walk_at "tv")))
  | ((with_reducible apply t_and); (focus (walk_at "tv")); (focus (intro _; walk_at "tv")))
  | ((with_reducible apply t_or); (focus (walk_at "tv")); (focus (intro _; walk_at "tv"))))
local macro_rules | `(tactic| walk_at "b1") => `(tactic| first
  | ((with_reducible apply b_set); (focus (walk_at "ev")); (try dsimp only [List.set]))
  | ((with_reducible apply b_if); (focus (walk_at "tv")))
  | ((with_reducible apply b_ret); (focus (walk_at "ev")))
  | (with_reducible apply b_next))
local macro_rules | `(tactic| walk_at "bs") => `(tactic| first
  | ((with_reducible apply b_seq); walk_at "b1"))

inductive R__law_cell : List D → D → Prop
  | mk (ns : List Int) (k : Nat) (h : ns.length ≤ 100) : R__law_cell [.fl (ns.map D.int), .int k] (.int (ns.getD k 0))
theorem sc__law_cell : FnScope ["_law_script", "_law_k"] ["_law_script", "_law_k"] (defScope s__law_cell) := ⟨rfl, rfl, rfl, by decide +kernel, rfl, by decide +kernel, by decide +kernel⟩
theorem ok__law_cell {P : Program} {w : World} {K : PySem.W.Frag} {mg : Str → Option Value} {base : Heap} {cs : List Addr} (T : Txt K cs mg) (F : DefAt K mg "_law_cell" "_law_cell" s__law_cell ["_law_script", "_law_k"]) : Callee P w K mg base "_law_cell" 1 ["_law_script", "_law_k"] R__law_cell := by
  have nd := sc__law_cell.nd
  refine ok_def F sc__law_cell (by intro ds d h; cases h; rfl) (fun f cdv A outer s H EX hr => ⟨_, (pss_cons (ps_if (pt_cmpR op_uLt (pv 1) (pe_callB (k_len K) (by rfl) T.b_len bt_len (pa_cons (pv 0) pa_nil)) (nomark _)) (pss_one (ps_ret (pe_ix (k_ix K) (pv 0) (pv 1) (fun _ _ => rfl)))) pss_nil)
      (pss_one (ps_ret pe_int))), fun I H' ds d hR => ?_⟩)
  cases hR with
  | mk ns k h =>
    refine b_seq (b_if (b := decide ((k : Int) < ((ns.map D.int).length : Int))) ?_ (fun h_ => ?_) (fun h_ => ?_))
    · walk_at "tv"
    · simp only [decide_eq_true_eq, List.length_map] at h_
      have hk : k < ns.length := by omega
      have e : atI (ns.map D.int) (k : Int) = some (.int (ns.getD k 0)) := by
        refine atI_nat ?_
        rw [List.getElem?_map, List.getElem?_eq_getElem hk, List.getD_eq_getElem?_getD, List.getElem?_eq_getElem hk]
        rfl
      exact b_ret (e_op (e_var rfl) (e_var rfl) (bin_ix_l .fl e)) rfl
    · simp only [decide_eq_false_iff_not, List.length_map] at h_
      refine b_next (b_ret (d := .int 0) e_int ?_)
      show D.int 0 = _
      rw [List.getD_eq_getElem?_getD, List.getElem?_eq_none (by omega)]
      rfl
def stir (c k : Int) : Int :=
  let n := (c % 2147483647 * 48271 + 69621 * k + 7) % 2147483647
  let m := n * n % 2147483629
  (m * m + 16807 * m + 11) % 2147483587
theorem stir_lo (c k : Int) : 0 ≤ stir c k := by unfold stir; simp only; omega
inductive R__law_stir : List D → D → Prop
  | mk (c k : Int) (h : -1000 ≤ k ∧ k ≤ 1000) : R__law_stir [.int c, .int k] (.int (stir c k))
theorem sc__law_stir : FnScope ["_law_cell_here", "_law_k", "_law_number"] ["_law_cell_here", "_law_k"] (defScope s__law_stir) := ⟨rfl, rfl, rfl, by decide +kernel, rfl, by decide +kernel, by decide +kernel⟩
theorem ok__law_stir {P : Program} {w : World} {K : PySem.W.Frag} {mg : Str → Option Value} {base : Heap} {cs : List Addr} (T : Txt K cs mg) (F : DefAt K mg "_law_stir" "_law_stir" s__law_stir ["_law_cell_here", "_law_k"]) : Callee P w K mg base "_law_stir" 1 ["_law_cell_here", "_law_k"] R__law_stir := by
  have nd := sc__law_stir.nd
  refine ok_def F sc__law_stir (by intro ds d h; cases h; rfl) (fun f cdv A outer s H EX hr => ⟨_, (pss_cons (ps_set (i := 2) nd rfl (Or.inl rfl) (pe_op op_modN (pe_op (k_add K) (pe_op (k_add K) (pe_op op_uMul (pe_op op_modN (pv 0) pe_int) pe_int) (pe_op op_uMul pe_int (pv 1))) pe_int) pe_int))
      (pss_cons (ps_set (i := 2) nd rfl (Or.inl rfl) (pe_op op_modN (pe_op op_uMul (pv 2) (pv 2)) pe_int))
      (pss_one (ps_ret (pe_op op_modN (pe_op (k_add K) (pe_op (k_add K) (pe_op op_uMul (pv 2) (pv 2)) (pe_op op_uMul pe_int (pv 2))) pe_int) pe_int))))), fun I H' ds d hR => ?_⟩)
  cases hR with
  | mk c k h =>
    walk_at "bs"
    walk_at "bs"
    apply b_ret_is (k := rfl)
    · walk_at "ev"
    · rfl
def one (z : Str) (i : Int) : Str := ⟨#[z.cps.toList.getD i.toNat 0]⟩
def L13 : Str := (Str.ofString "abcXYZ019+-$ ")
theorem L13_len : L13.cps.toList.length = 13 := by decide +kernel
theorem L13_ok : ∀ c ∈ L13.cps.toList, c < 1114112 := by decide +kernel
def txt (c : Int) : Str := Txt.join (Str.ofString "") ((List.range (stir c 20 % 9).toNat).map fun (k : Nat) => one L13 (stir c (k : Int) % 13))
theorem joinL_codes : ∀ l : List Nat, TL.joinL [] (l.map fun c => [c]) = l
  | [] => rfl
  | [p] => rfl
  | p :: q :: r => by
    have := joinL_codes (q :: r)
    simp only [List.map_cons] at this ⊢
    rw [TL.joinL, this]
    rfl
theorem txt_codes (c : Int) : (txt c).cps.toList = (List.range (stir c 20 % 9).toNat).map fun (k : Nat) => L13.cps.toList.getD (stir c (k : Int) % 13).toNat 0 := by
  unfold txt
  rw [TL.join_eq]
  show TL.tl _ = _
  rw [TL.tl_join]
  have e0 : TL.tl (Str.ofString "") = [] := by decide +kernel
  have e1 : ((List.range (stir c 20 % 9).toNat).map fun (k : Nat) => one L13 (stir c (k : Int) % 13)).map TL.tl = ((List.range (stir c 20 % 9).toNat).map fun (k : Nat) => L13.cps.toList.getD (stir c (k : Int) % 13).toNat 0).map fun c => [c] := by
    rw [List.map_map, List.map_map]; rfl
  rw [e0, e1, joinL_codes]
theorem txt_ok (c : Int) : okS (txt c) = true := okS_of fun x hx => by
  rw [txt_codes, List.mem_map] at hx
  obtain ⟨k, _, rfl⟩ := hx
  rw [List.getD_eq_getElem?_getD, List.getElem?_eq_getElem (by rw [L13_len]; omega)]
  exact L13_ok _ (List.getElem_mem _)
def things (z : Str) (n : Int) : List D := [.str z, .int n, .int (0 - n), .lst [.str z, .int n], .tup [.int n, .str z], .non, .bl true, .bl false, .lst [], .str (Str.ofString ""), .int 0]
structure ThOk (d : D) : Prop where
  ok : okD d = true
  dep : depD d ≤ 64
  eq : eqD d d = true
  pl : plain d = true
theorem eqD_bl (a b : Bool) : eqD (.bl a) (.bl b) = decide (a = b) := by cases a <;> cases b <;> simp [eqD, toP, PyData.eqv] <;> rfl
theorem things_ok (z : Str) (n : Int) (hz : okS z = true) : ∀ d ∈ things z n, ThOk d := by
  intro d hd
  simp only [things, List.mem_cons, List.not_mem_nil, or_false] at hd
  rcases hd with rfl | rfl | rfl | rfl | rfl | rfl | rfl | rfl | rfl | rfl | rfl <;> refine ⟨?_, ?_, ?_, rfl⟩ <;>
    first
    | (simp [okD, okDs, hz]; done)
    | (simp [depD, depDs]; done)
    | (simp [eqD_str, eqD_int, eqD_lst, eqD_tup, eqDs_nil, eqDs_cons, eqD_bl]; done)
    | (simp [eqD, toP, PyData.eqv]; done)
    | (decide +kernel)
def ixs : List Nat := [1, 2, 3, 5, 6, 7, 8, 12, 4, 9, 10, 14, 11, 13, 16, 17, 15]
def xnF (i : Nat) : List Str := if i = 16 then ["ahead", "state"] else [["found", "found", "found", "found", "found", "found", "found", "found", "line", "line", "head", "head", "number", "number", "state", "place"].getD i ""]
def xnD (i : Nat) (t o : D) : List D := if i = 16 then [o, t] else [t]
def xn (cs : List Addr) (t o : D) (i : Nat) : D := .exn (cs.getD (ixs.getD i 0) 0) (xnF i) (xnD i t o)
def madeD (cs : List Addr) (t o : D) : List D := (List.range 17).map (xn cs t o)
inductive R__law_made (cs : List Addr) : List D → D → Prop
  | mk (t o : D) : R__law_made cs [t, o] (.lst (madeD cs t o))
theorem sc__law_made : FnScope ["_law_thing", "_law_other", "_law_some"] ["_law_thing", "_law_other"] (defScope s__law_made) := ⟨rfl, rfl, rfl, by decide +kernel, rfl, by decide +kernel, by decide +kernel⟩
theorem ok__law_made {P : Program} {w : World} {K : PySem.W.Frag} {mg : Str → Option Value} {base : Heap} {cs : List Addr} (T : Txt K cs mg) (F : DefAt K mg "_law_made" "_law_made" s__law_made ["_law_thing", "_law_other"]) (x_NoRule : XCallee P w K mg base "NoRule" (cs.getD 1 0) ["self", "found"] (spI (cs.getD 1 0) "found")) (x_NoRanks : XCallee P w K mg base "NoRanks" (cs.getD 2 0) ["self", "found"] (spI (cs.getD 2 0) "found")) (x_NoSymbol : XCallee P w K mg base "NoSymbol" (cs.getD 3 0) ["self", "found"] (spI (cs.getD 3 0) "found")) (x_NoTree : XCallee P w K mg base "NoTree" (cs.getD 5 0) ["self", "found"] (spI (cs.getD 5 0) "found")) (x_NoRow : XCallee P w K mg base "NoRow" (cs.getD 6 0) ["self", "found"] (spI (cs.getD 6 0) "found")) (x_NoItem : XCallee P w K mg base "NoItem" (cs.getD 7 0) ["self", "found"] (spI (cs.getD 7 0) "found")) (x_NoPrice : XCallee P w K mg base "NoPrice" (cs.getD 8 0) ["self", "found"] (spI (cs.getD 8 0) "found")) (x_TooMany : XCallee P w K mg base "TooMany" (cs.getD 12 0) ["self", "found"] (spI (cs.getD 12 0) "found")) (x_NoText : XCallee P w K mg base "NoText" (cs.getD 4 0) ["self", "line"] (spI (cs.getD 4 0) "line")) (x_NoLine : XCallee P w K mg base "NoLine" (cs.getD 9 0) ["self", "line"] (spI (cs.getD 9 0) "line")) (x_NoHead : XCallee P w K mg base "NoHead" (cs.getD 10 0) ["self", "head"] (spI (cs.getD 10 0) "head")) (x_Vast : XCallee P w K mg base "Vast" (cs.getD 14 0) ["self", "head"] (spI (cs.getD 14 0) "head")) (x_Doubled : XCallee P w K mg base "Doubled" (cs.getD 11 0) ["self", "number"] (spI (cs.getD 11 0) "number")) (x_Dead : XCallee P w K mg base "Dead" (cs.getD 13 0) ["self", "number"] (spI (cs.getD 13 0) "number")) (x_NoState : XCallee P w K mg base "NoState" (cs.getD 16 0) ["self", "state"] (spI (cs.getD 16 0) "state")) (x_NoPlace : XCallee P w K mg base "NoPlace" (cs.getD 17 0) ["self", "place"] (spI (cs.getD 17 0) "place")) (x_Open : XCallee P w K mg base "Open" (cs.getD 15 0) ["self", "state", "ahead"] (spI2 (cs.getD 15 0) "state" "ahead")) : Callee P w K mg base "_law_made" 3 ["_law_thing", "_law_other"] (R__law_made cs) := by
  have nd := sc__law_made.nd
  refine ok_def F sc__law_made (by intro ds d h; cases h; rfl) (fun f cdv A outer s H EX hr => ⟨_, (pss_cons (ps_set (i := 2) nd rfl (Or.inl rfl) (pe_lst (pa_cons (k_exv K x_NoRule hr (by decide) (by rfl) (pa_cons (pv 0) pa_nil)) (pa_cons (k_exv K x_NoRanks hr (by decide) (by rfl) (pa_cons (pv 0) pa_nil)) (pa_cons (k_exv K x_NoSymbol hr (by decide) (by rfl) (pa_cons (pv 0) pa_nil)) (pa_cons (k_exv K x_NoTree hr (by decide) (by rfl) (pa_cons (pv 0) pa_nil)) (pa_cons (k_exv K x_NoRow hr (by decide) (by rfl) (pa_cons (pv 0) pa_nil)) (pa_cons (k_exv K x_NoItem hr (by decide) (by rfl) (pa_cons (pv 0) pa_nil)) (pa_cons (k_exv K x_NoPrice hr (by decide) (by rfl) (pa_cons (pv 0) pa_nil)) pa_nil)))))))))
      (pss_cons (ps_set (i := 2) nd rfl (Or.inl rfl) (pe_op (k_add K) (pv 2) (pe_lst (pa_cons (k_exv K x_TooMany hr (by decide) (by rfl) (pa_cons (pv 0) pa_nil)) (pa_cons (k_exv K x_NoText hr (by decide) (by rfl) (pa_cons (pv 0) pa_nil)) (pa_cons (k_exv K x_NoLine hr (by decide) (by rfl) (pa_cons (pv 0) pa_nil)) (pa_cons (k_exv K x_NoHead hr (by decide) (by rfl) (pa_cons (pv 0) pa_nil)) (pa_cons (k_exv K x_Vast hr (by decide) (by rfl) (pa_cons (pv 0) pa_nil)) (pa_cons (k_exv K x_Doubled hr (by decide) (by rfl) (pa_cons (pv 0) pa_nil)) pa_nil)))))))))
      (pss_one (ps_ret (pe_op (k_add K) (pv 2) (pe_lst (pa_cons (k_exv K x_Dead hr (by decide) (by rfl) (pa_cons (pv 0) pa_nil)) (pa_cons (k_exv K x_NoState hr (by decide) (by rfl) (pa_cons (pv 0) pa_nil)) (pa_cons (k_exv K x_NoPlace hr (by decide) (by rfl) (pa_cons (pv 0) pa_nil)) (pa_cons (k_exv K x_Open hr (by decide) (by rfl) (pa_cons (pv 0) (pa_cons (pv 1) pa_nil))) pa_nil)))))))))), fun I H' ds d hR => ?_⟩)
  cases hR with
  | mk t o =>
    have xv : ∀ {Γ : Sl} {C : Addr} {f : Str}, Γ[0]? = some (some (.im t)) → E K Γ (tExv C (spI C f) (tCons (tVar 0) tNil)) (.exn C [f] [t]) := fun h => e_exv (ea_cons (e_var h) ea_nil)
    refine b_seq (b_set (d := .lst ([0, 1, 2, 3, 4, 5, 6].map (xn cs t o))) (e_lst (ea_cons (xv rfl) (ea_cons (xv rfl) (ea_cons (xv rfl) (ea_cons (xv rfl) (ea_cons (xv rfl) (ea_cons (xv rfl) (ea_cons (xv rfl) ea_nil))))))) (by rw [sizeLine_eq]; exact Nat.le_of_ble_eq_true rfl)) ?_)
    refine b_seq (b_set (d := .lst ([0, 1, 2, 3, 4, 5, 6].map (xn cs t o) ++ [7, 8, 9, 10, 11, 12].map (xn cs t o))) (e_op (e_var rfl) (e_lst (ea_cons (xv rfl) (ea_cons (xv rfl) (ea_cons (xv rfl) (ea_cons (xv rfl) (ea_cons (xv rfl) (ea_cons (xv rfl) ea_nil)))))) (by rw [sizeLine_eq]; exact Nat.le_of_ble_eq_true rfl)) (bin_add_lst (by rw [sizeLine_eq]; exact Nat.le_of_ble_eq_true rfl))) ?_)
    exact b_ret (d := .lst (([0, 1, 2, 3, 4, 5, 6].map (xn cs t o) ++ [7, 8, 9, 10, 11, 12].map (xn cs t o)) ++ [13, 14, 15, 16].map (xn cs t o))) (e_op (e_var rfl) (e_lst (ea_cons (xv rfl) (ea_cons (xv rfl) (ea_cons (xv rfl) (ea_cons (e_exv2 (ea_cons (e_var rfl) (ea_cons (e_var rfl) ea_nil))) ea_nil)))) (by rw [sizeLine_eq]; exact Nat.le_of_ble_eq_true rfl)) (bin_add_lst (by rw [sizeLine_eq]; exact Nat.le_of_ble_eq_true rfl))) rfl
inductive R__law_kinds (cs : List Addr) : List D → D → Prop
  | mk (p : Nat) (h1 : 1 ≤ p) (h2 : p < 18) (ns : List Str) (ds : List D) : R__law_kinds cs [.exn (cs.getD p 0) ns ds] (.lst (ixs.map fun q => .bl (p == q || q == 0)))
theorem e_ref {K : PySem.W.Frag} {Γ : Sl} {a : Addr} : E K Γ (tC (.ref a)) (.ref a) := fun I σ H as e _ Q q => q I H _ (Gr.refl e) (.ref a)
theorem sc__law_kinds : FnScope ["_law_e", "_law_some"] ["_law_e"] (defScope s__law_kinds) := ⟨rfl, rfl, rfl, by decide +kernel, rfl, by decide +kernel, by decide +kernel⟩
theorem ok__law_kinds {P : Program} {w : World} {K : PySem.W.Frag} {mg : Str → Option Value} {base : Heap} {cs : List Addr} (T : Txt K cs mg) (F : DefAt K mg "_law_kinds" "_law_kinds" s__law_kinds ["_law_e"]) : Callee P w K mg base "_law_kinds" 1 ["_law_e"] (R__law_kinds cs) := by
  have nd := sc__law_kinds.nd
  refine ok_def F sc__law_kinds (by intro ds d h; cases h; rfl) (fun f cdv A outer s H EX hr => ⟨_, (pss_cons (ps_set (i := 1) nd rfl (Or.inl rfl) (pe_lst (pa_cons (pe_callB (k_isiX K) (by rfl) T.b_isinstance bt_isinstance (pa_cons (pv 0) (pa_cons (pe_gl T.g_NoRule) pa_nil))) (pa_cons (pe_callB (k_isiX K) (by rfl) T.b_isinstance bt_isinstance (pa_cons (pv 0) (pa_cons (pe_gl T.g_NoRanks) pa_nil))) (pa_cons (pe_callB (k_isiX K) (by rfl) T.b_isinstance bt_isinstance (pa_cons (pv 0) (pa_cons (pe_gl T.g_NoSymbol) pa_nil))) (pa_cons (pe_callB (k_isiX K) (by rfl) T.b_isinstance bt_isinstance (pa_cons (pv 0) (pa_cons (pe_gl T.g_NoTree) pa_nil))) pa_nil))))))
      (pss_cons (ps_set (i := 1) nd rfl (Or.inl rfl) (pe_op (k_add K) (pv 1) (pe_lst (pa_cons (pe_callB (k_isiX K) (by rfl) T.b_isinstance bt_isinstance (pa_cons (pv 0) (pa_cons (pe_gl T.g_NoRow) pa_nil))) (pa_cons (pe_callB (k_isiX K) (by rfl) T.b_isinstance bt_isinstance (pa_cons (pv 0) (pa_cons (pe_gl T.g_NoItem) pa_nil))) (pa_cons (pe_callB (k_isiX K) (by rfl) T.b_isinstance bt_isinstance (pa_cons (pv 0) (pa_cons (pe_gl T.g_NoPrice) pa_nil))) (pa_cons (pe_callB (k_isiX K) (by rfl) T.b_isinstance bt_isinstance (pa_cons (pv 0) (pa_cons (pe_gl T.g_TooMany) pa_nil))) pa_nil)))))))
      (pss_cons (ps_set (i := 1) nd rfl (Or.inl rfl) (pe_op (k_add K) (pv 1) (pe_lst (pa_cons (pe_callB (k_isiX K) (by rfl) T.b_isinstance bt_isinstance (pa_cons (pv 0) (pa_cons (pe_gl T.g_NoText) pa_nil))) (pa_cons (pe_callB (k_isiX K) (by rfl) T.b_isinstance bt_isinstance (pa_cons (pv 0) (pa_cons (pe_gl T.g_NoLine) pa_nil))) (pa_cons (pe_callB (k_isiX K) (by rfl) T.b_isinstance bt_isinstance (pa_cons (pv 0) (pa_cons (pe_gl T.g_NoHead) pa_nil))) (pa_cons (pe_callB (k_isiX K) (by rfl) T.b_isinstance bt_isinstance (pa_cons (pv 0) (pa_cons (pe_gl T.g_Vast) pa_nil))) pa_nil)))))))
      (pss_cons (ps_set (i := 1) nd rfl (Or.inl rfl) (pe_op (k_add K) (pv 1) (pe_lst (pa_cons (pe_callB (k_isiX K) (by rfl) T.b_isinstance bt_isinstance (pa_cons (pv 0) (pa_cons (pe_gl T.g_Doubled) pa_nil))) (pa_cons (pe_callB (k_isiX K) (by rfl) T.b_isinstance bt_isinstance (pa_cons (pv 0) (pa_cons (pe_gl T.g_Dead) pa_nil))) (pa_cons (pe_callB (k_isiX K) (by rfl) T.b_isinstance bt_isinstance (pa_cons (pv 0) (pa_cons (pe_gl T.g_NoState) pa_nil))) (pa_cons (pe_callB (k_isiX K) (by rfl) T.b_isinstance bt_isinstance (pa_cons (pv 0) (pa_cons (pe_gl T.g_NoPlace) pa_nil))) pa_nil)))))))
      (pss_one (ps_ret (pe_op (k_add K) (pv 1) (pe_lst (pa_cons (pe_callB (k_isiX K) (by rfl) T.b_isinstance bt_isinstance (pa_cons (pv 0) (pa_cons (pe_gl T.g_Open) pa_nil))) pa_nil))))))))), fun I H' ds d hR => ?_⟩)
  cases hR with
  | mk p h1 h2 ns ds =>
    have is : ∀ {Γ : Sl} (q : Nat), q < 18 → Γ[0]? = some (some (.im (.exn (cs.getD p 0) ns ds))) → E K Γ (tCB (rIsiX K) (tCons (tVar 0) (tCons (tC (.ref (cs.getD q 0))) tNil))) (.bl (p == q || q == 0)) := fun q hq h =>
      e_cb (ea_cons (e_var h) (ea_cons e_ref ea_nil)) (ca_isR (T.xo p h1 h2).xi (T.kit p q h1 h2 hq))
    refine b_seq (b_set (d := .lst ([1, 2, 3, 5].map fun q => .bl (p == q || q == 0))) (e_lst (ea_cons (is 1 (by decide) rfl) (ea_cons (is 2 (by decide) rfl) (ea_cons (is 3 (by decide) rfl) (ea_cons (is 5 (by decide) rfl) ea_nil)))) (by rw [sizeLine_eq]; exact Nat.le_of_ble_eq_true rfl)) ?_)
    refine b_seq (b_set (d := .lst (([1, 2, 3, 5].map fun q => .bl (p == q || q == 0)) ++ [6, 7, 8, 12].map fun q => .bl (p == q || q == 0))) (e_op (e_var rfl) (e_lst (ea_cons (is 6 (by decide) rfl) (ea_cons (is 7 (by decide) rfl) (ea_cons (is 8 (by decide) rfl) (ea_cons (is 12 (by decide) rfl) ea_nil)))) (by rw [sizeLine_eq]; exact Nat.le_of_ble_eq_true rfl)) (bin_add_lst (by rw [sizeLine_eq]; exact Nat.le_of_ble_eq_true rfl))) ?_)
    refine b_seq (b_set (d := .lst ((([1, 2, 3, 5].map fun q => .bl (p == q || q == 0)) ++ [6, 7, 8, 12].map fun q => .bl (p == q || q == 0)) ++ [4, 9, 10, 14].map fun q => .bl (p == q || q == 0))) (e_op (e_var rfl) (e_lst (ea_cons (is 4 (by decide) rfl) (ea_cons (is 9 (by decide) rfl) (ea_cons (is 10 (by decide) rfl) (ea_cons (is 14 (by decide) rfl) ea_nil)))) (by rw [sizeLine_eq]; exact Nat.le_of_ble_eq_true rfl)) (bin_add_lst (by rw [sizeLine_eq]; exact Nat.le_of_ble_eq_true rfl))) ?_)
    refine b_seq (b_set (d := .lst (((([1, 2, 3, 5].map fun q => .bl (p == q || q == 0)) ++ [6, 7, 8, 12].map fun q => .bl (p == q || q == 0)) ++ [4, 9, 10, 14].map fun q => .bl (p == q || q == 0)) ++ [11, 13, 16, 17].map fun q => .bl (p == q || q == 0))) (e_op (e_var rfl) (e_lst (ea_cons (is 11 (by decide) rfl) (ea_cons (is 13 (by decide) rfl) (ea_cons (is 16 (by decide) rfl) (ea_cons (is 17 (by decide) rfl) ea_nil)))) (by rw [sizeLine_eq]; exact Nat.le_of_ble_eq_true rfl)) (bin_add_lst (by rw [sizeLine_eq]; exact Nat.le_of_ble_eq_true rfl))) ?_)
    exact b_ret (d := .lst ((((([1, 2, 3, 5].map fun q => .bl (p == q || q == 0)) ++ [6, 7, 8, 12].map fun q => .bl (p == q || q == 0)) ++ [4, 9, 10, 14].map fun q => .bl (p == q || q == 0)) ++ [11, 13, 16, 17].map fun q => .bl (p == q || q == 0)) ++ [15].map fun q => .bl (p == q || q == 0))) (e_op (e_var rfl) (e_lst (ea_cons (is 15 (by decide) rfl) ea_nil) (by rw [sizeLine_eq]; exact Nat.le_of_ble_eq_true rfl)) (bin_add_lst (by rw [sizeLine_eq]; exact Nat.le_of_ble_eq_true rfl))) rfl
inductive R__law_kept (cs : List Addr) : List D → D → Prop
  | mk (t o : D) : R__law_kept cs [.lst (madeD cs t o)] (.lst (List.replicate 17 t))
theorem fld_in : ∀ i < 17, ∀ f ∈ xnF i, f ∈ fieldsOf (ixs.getD i 0) := by decide +kernel
theorem ixs_in : ∀ i < 17, 1 ≤ ixs.getD i 0 ∧ ixs.getD i 0 < 18 := by decide +kernel
theorem e_fld {K : PySem.W.Frag} {cs : List Addr} {mg : Str → Option Value} (T : Txt K cs mg) {Γ : Sl} {te : TE} {t o d : D} (i : Nat) (hi : i < 17) {f : Str} (hf : f ∈ xnF i) (h : E K Γ te (xn cs t o i)) (hl : ((xnF i).zip (xnD i t o)).lookup f = some d) : E K Γ (tXv K te f) d :=
  e_xv h (T.xo _ (ixs_in i hi).1 (ixs_in i hi).2) (fld_in i hi f hf) hl
theorem sc__law_kept : FnScope ["_law_some", "_law_found", "_law_e"] ["_law_some"] (defScope s__law_kept) := ⟨rfl, rfl, rfl, by decide +kernel, rfl, by decide +kernel, by decide +kernel⟩
theorem ok__law_kept {P : Program} {w : World} {K : PySem.W.Frag} {mg : Str → Option Value} {base : Heap} {cs : List Addr} (T : Txt K cs mg) (F : DefAt K mg "_law_kept" "_law_kept" s__law_kept ["_law_some"]) : Callee P w K mg base "_law_kept" 1 ["_law_some"] (R__law_kept cs) := by
  have nd := sc__law_kept.nd
  refine ok_def F sc__law_kept (by intro ds d h; cases h; rfl) (fun f cdv A outer s H EX hr => ⟨_, (pss_cons (ps_set (i := 1) nd rfl (Or.inl rfl) (pe_op (k_add K) (pe_op (k_add K) (pe_lc (own := [("_law_e", 2)]) rfl nd (k_it K rfl (pe_slice (k_sl K) (pv 0) po_none (po_some pe_int))) (blkOk_by (N := ["_law_some", "_law_found", "_law_e"]) (sc := defScope s__law_kept) (by decide +kernel)) (fun _ _ _ _ _ => (pg_name (i := 2) nd rfl (by first | exact Or.inl rfl | exact Or.inr rfl))) (fun _ _ _ _ _ => pts_nil) (fun _ _ _ _ _ => (k_xv K (pv 2)))) (pe_lc (own := [("_law_e", 2)]) rfl nd (k_it K rfl (pe_slice (k_sl K) (pv 0) (po_some pe_int) (po_some pe_int))) (blkOk_by (N := ["_law_some", "_law_found", "_law_e"]) (sc := defScope s__law_kept) (by decide +kernel)) (fun _ _ _ _ _ => (pg_name (i := 2) nd rfl (by first | exact Or.inl rfl | exact Or.inr rfl))) (fun _ _ _ _ _ => pts_nil) (fun _ _ _ _ _ => (k_xv K (pv 2))))) (pe_lc (own := [("_law_e", 2)]) rfl nd (k_it K rfl (pe_slice (k_sl K) (pv 0) (po_some pe_int) (po_some pe_int))) (blkOk_by (N := ["_law_some", "_law_found", "_law_e"]) (sc := defScope s__law_kept) (by decide +kernel)) (fun _ _ _ _ _ => (pg_name (i := 2) nd rfl (by first | exact Or.inl rfl | exact Or.inr rfl))) (fun _ _ _ _ _ => pts_nil) (fun _ _ _ _ _ => (k_xv K (pv 2))))))
      (pss_one (ps_ret (pe_op (k_add K) (pe_op (k_add K) (pv 1) (pe_lc (own := [("_law_e", 2)]) rfl nd (k_it K rfl (pe_slice (k_sl K) (pv 0) (po_some pe_int) (po_some pe_int))) (blkOk_by (N := ["_law_some", "_law_found", "_law_e"]) (sc := defScope s__law_kept) (by decide +kernel)) (fun _ _ _ _ _ => (pg_name (i := 2) nd rfl (by first | exact Or.inl rfl | exact Or.inr rfl))) (fun _ _ _ _ _ => pts_nil) (fun _ _ _ _ _ => (k_xv K (pv 2))))) (pe_lst (pa_cons (k_xv K (pe_ix (k_ix K) (pv 0) pe_int (fun _ _ => rfl))) (pa_cons (k_xv K (pe_ix (k_ix K) (pv 0) pe_int (fun _ _ => rfl))) (pa_cons (k_xv K (pe_ix (k_ix K) (pv 0) pe_int (fun _ _ => rfl))) pa_nil)))))))), fun I H' ds d hR => ?_⟩)
  cases hR with
  | mk t o =>
    have lc : ∀ {a b : Option SV} {lo hi : Option Int} {tl th : TO} (xs : List Nat) (f : Str), EO K [some (.im (.lst (madeD cs t o))), a, b] tl lo → EO K [some (.im (.lst (madeD cs t o))), a, b] th hi → cutD (madeD cs t o) lo hi = xs.map (xn cs t o) → (∀ i ∈ xs, i < 16 ∧ xnF i = [f]) → xs.length ≤ 17 →
        E K [some (.im (.lst (madeD cs t o))), a, b] (tLc (fun σ H R => iList K (tSl (uSl K) (tVar 0) tl th) σ H R ∨ (fun σ H R => iTup K (tSl (uSl K) (tVar 0) tl th) σ H R ∨ iStr (tSl (uSl K) (tVar 0) tl th) σ H R) σ H R) (gName 2) tYes (tXv K (tVar 2) f) [2]) (.lst (List.replicate xs.length t)) := fun xs f h1 h2 hc hx hl => by
      refine e_is (e_lcY (xs := xs) (em := xn cs t o) (f := fun _ => t) (emb := id) (src_u_l (e_is (e_sl_l (e_var rfl) .lst h1 h2) (by rw [hc])) .lst) (by omega) ?_) (by rw [List.map_id, List.map_const'])
      intro i x hx0
      have hx1 := hx x (List.mem_of_getElem? hx0)
      refine ⟨_, _, tgt_name, by simp, ?_⟩
      refine e_fld T x (by omega) (by rw [hx1.2]; simp) (e_var rfl) ?_
      rw [hx1.2]
      unfold xnD
      rw [if_neg (by omega)]
      simp [lk_put]
    refine b_seq (b_set (d := .lst ((List.replicate 8 t ++ List.replicate 2 t) ++ List.replicate 2 t)) (e_op (e_op (lc [0, 1, 2, 3, 4, 5, 6, 7] "found" eo_none (eo_some e_int) rfl (by decide +kernel) (by decide)) (lc [8, 9] "line" (eo_some e_int) (eo_some e_int) rfl (by decide +kernel) (by decide)) (bin_add_lst (by rw [sizeLine_eq]; exact Nat.le_of_ble_eq_true rfl)))
      (lc [10, 11] "head" (eo_some e_int) (eo_some e_int) rfl (by decide +kernel) (by decide)) (bin_add_lst (by rw [sizeLine_eq]; exact Nat.le_of_ble_eq_true rfl))) ?_)
    exact b_ret (d := .lst (((List.replicate 8 t ++ List.replicate 2 t) ++ List.replicate 2 t) ++ List.replicate 2 t ++ [t, t, t])) (e_op (e_op (e_var rfl) (lc [12, 13] "number" (eo_some e_int) (eo_some e_int) rfl (by decide +kernel) (by decide)) (bin_add_lst (by rw [sizeLine_eq]; exact Nat.le_of_ble_eq_true rfl)))
      (e_lst (ea_cons (e_fld T 14 (by decide) (by decide +kernel) (e_op (e_var rfl) e_int (bin_ix_l .lst rfl)) rfl) (ea_cons (e_fld T 15 (by decide) (by decide +kernel) (e_op (e_var rfl) e_int (bin_ix_l .lst rfl)) rfl) (ea_cons (e_fld T 16 (by decide) (by decide +kernel) (e_op (e_var rfl) e_int (bin_ix_l .lst rfl)) rfl) ea_nil))) (by rw [sizeLine_eq]; exact Nat.le_of_ble_eq_true rfl)) (bin_add_lst (by rw [sizeLine_eq]; exact Nat.le_of_ble_eq_true rfl))) rfl
inductive R__law_same : List D → D → Prop
  | mk (d : D) (h : ThOk d) : R__law_same [d, d] (.bl true)
theorem sc__law_same : FnScope ["_law_one", "_law_other"] ["_law_one", "_law_other"] (defScope s__law_same) := ⟨rfl, rfl, rfl, by decide +kernel, rfl, by decide +kernel, by decide +kernel⟩
theorem ok__law_same {P : Program} {w : World} {K : PySem.W.Frag} {mg : Str → Option Value} {base : Heap} {cs : List Addr} (T : Txt K cs mg) (F : DefAt K mg "_law_same" "_law_same" s__law_same ["_law_one", "_law_other"]) : Callee P w K mg base "_law_same" 1 ["_law_one", "_law_other"] R__law_same := by
  have nd := sc__law_same.nd
  refine ok_def F sc__law_same (by intro ds d h; cases h; rfl) (fun f cdv A outer s H EX hr => ⟨_, (pss_one (ps_ret (pe_and (pe_cmpR (k_eq K rfl hr.units) (pv 0) (pv 1) (nomark _)) (pe_one (pe_cmpR (k_eq K rfl hr.units) (pe_callB (k_isiX K) (by rfl) T.b_isinstance bt_isinstance (pa_cons (pv 0) (pa_cons (pe_bltn (v := .ty "bool") (by rfl) T.b_bool bt_bool rfl) pa_nil))) (pe_callB (k_isiX K) (by rfl) T.b_isinstance bt_isinstance (pa_cons (pv 1) (pa_cons (pe_bltn (v := .ty "bool") (by rfl) T.b_bool bt_bool rfl) pa_nil))) (nomark _)))))), fun I H' ds d hR => ?_⟩)
  cases hR with
  | mk d h =>
    refine b_ret_is (e_andV (a := true) (b := true) (e_is (e_op (e_var rfl) (e_var rfl) (bin_eqG h.ok h.ok h.dep h.dep)) (by rw [h.eq])) (fun _ => e_is (e_op (e_cb (ea_cons (e_var rfl) (ea_cons e_ty ea_nil)) (ca_isL (ca_is_bool h.pl))) (e_cb (ea_cons (e_var rfl) (ea_cons e_ty ea_nil)) (ca_isL (ca_is_bool h.pl))) bin_eq_bl) (by simp))) rfl rfl
theorem enumD_get {ds : List D} {i : Nat} {d : D} (h : (enumD ds)[i]? = some d) : ∃ x, ds[i]? = some x ∧ d = .tup [.int i, x] := by
  unfold enumD at h
  rw [List.getElem?_mapIdx] at h
  cases q : ds[i]? with
  | none => rw [q] at h; cases h
  | some x => rw [q] at h; cases h; exact ⟨x, rfl, rfl⟩
theorem bls_ok (l : List Bool) : okDs (l.map D.bl) = true ∧ depDs (l.map D.bl) = 0 := by
  induction l with
  | nil => simp [okDs, depDs]
  | cons b l ih => simp [okDs, okD, depDs, depD, ih]
theorem kinds_eq : ∀ j < 17, (ixs.map fun q => (ixs.getD j 0 == q || q == 0)) = (List.range 17).map fun a => decide (a = j) := by decide +kernel
def evs (cs : List Addr) (s : List (D × D)) : List D := s.map fun p => .tup [.lst (madeD cs p.1 p.2), p.1, p.2]
inductive R_law (cs : List Addr) : List D → D → Prop
  | mk (ns : List Int) (h : ns.length ≤ 63) : R_law cs [.fl (ns.map D.int)] (.bl true)
theorem sc_law : FnScope ["_law_script", "_law_cell_here", "_law_text", "_law_number", "_law_things", "_law_every", "_law_k", "_law_thing", "_law_other", "_law_some", "_law_j", "_law_one", "_law_found", "_law_at"] ["_law_script"] (defScope s_law) := ⟨rfl, rfl, rfl, by decide +kernel, rfl, by decide +kernel, by decide +kernel⟩
theorem ok_law {P : Program} {w : World} {K : PySem.W.Frag} {mg : Str → Option Value} {base : Heap} {cs : List Addr} (T : Txt K cs mg) (F : DefAt K mg "law" "law" s_law ["_law_script"]) (c__law_cell : Callee P w K mg base "_law_cell" 1 ["_law_script", "_law_k"] R__law_cell) (c__law_made : Callee P w K mg base "_law_made" 3 ["_law_thing", "_law_other"] (R__law_made cs)) (c__law_kept : Callee P w K mg base "_law_kept" 1 ["_law_some"] (R__law_kept cs)) (c__law_same : Callee P w K mg base "_law_same" 1 ["_law_one", "_law_other"] R__law_same) (c__law_kinds : Callee P w K mg base "_law_kinds" 1 ["_law_e"] (R__law_kinds cs)) (c__law_stir : Callee P w K mg base "_law_stir" 1 ["_law_cell_here", "_law_k"] R__law_stir) : Callee P w K mg base "law" 4 ["_law_script"] (R_law cs) := by
  have nd := sc_law.nd
  refine ok_def F sc_law (by intro ds d h; cases h; rfl) (fun f cdv A outer s H EX hr => ⟨_, (pss_cons (ps_set (i := 1) nd rfl (Or.inr rfl) (k_call K c__law_cell hr (by decide) (by rfl) (pa_cons (pv 0) (pa_cons pe_int pa_nil))))
      (pss_cons (ps_set (i := 2) nd rfl (Or.inl rfl) (k_join K rfl pe_str (pe_lc (own := [("_law_k", 6)]) rfl nd (pi_range1 (by rfl) T.b_range (pa_cons (pe_op op_modN (k_call K c__law_stir hr (by decide) (by rfl) (pa_cons (pv 1) (pa_cons pe_int pa_nil))) pe_int) pa_nil)) (blkOk_by (N := ["_law_script", "_law_cell_here", "_law_text", "_law_number", "_law_things", "_law_every", "_law_k", "_law_thing", "_law_other", "_law_some", "_law_j", "_law_one", "_law_found", "_law_at"]) (sc := defScope s_law) (by decide +kernel)) (fun _ _ _ _ _ => (pg_name (i := 6) nd rfl (by first | exact Or.inl rfl | exact Or.inr rfl))) (fun _ _ _ _ _ => pts_nil) (fun _ _ _ _ _ => (pe_ix (k_ix K) pe_str (pe_op op_modN (k_call K c__law_stir hr (by decide) (by rfl) (pa_cons (pv 1) (pa_cons (pv 6) pa_nil))) pe_int) (fun _ _ => rfl))))))
      (pss_cons (ps_set (i := 3) nd rfl (Or.inl rfl) (pe_op op_modN (k_call K c__law_cell hr (by decide) (by rfl) (pa_cons (pv 0) (pa_cons pe_int pa_nil))) (pe_op op_pow pe_int pe_int)))
      (pss_cons (ps_set (i := 4) nd rfl (Or.inl rfl) (pe_lst (pa_cons (pv 2) (pa_cons (pv 3) (pa_cons (pe_op op_sub pe_int (pv 3)) (pa_cons (pe_lst (pa_cons (pv 2) (pa_cons (pv 3) pa_nil))) (pa_cons (pe_tup (pa_cons (pv 3) (pa_cons (pv 2) pa_nil))) (pa_cons pe_non (pa_cons pe_bl (pa_cons pe_bl (pa_cons (pe_lst pa_nil) (pa_cons pe_str (pa_cons pe_int pa_nil)))))))))))))
      (pss_cons (ps_set (i := 5) nd rfl (Or.inl rfl) (pe_lst pa_nil))
      (pss_cons (ps_for PassesOwn.never rfl (k_enum K rfl (by rfl) T.b_enumerate (pa_cons (pv 4) pa_nil)) (k_tup K rfl rfl (pgs_cons (pg_name (i := 6) nd rfl (Or.inl rfl)) (pgs_cons (pg_name (i := 7) nd rfl (Or.inl rfl)) pgs_nil))) (pss_cons (ps_set (i := 8) nd rfl (Or.inl rfl) (pe_ix (k_ix K) (pv 4) (pe_op op_modN (pe_op (k_add K) (pe_op (k_add K) (pv 6) pe_int) (pv 1)) pe_int) (fun _ _ => rfl)))
      (pss_cons (ps_set (i := 9) nd rfl (Or.inl rfl) (k_call K c__law_made hr (by decide) (by rfl) (pa_cons (pv 7) (pa_cons (pv 8) pa_nil))))
      (pss_cons (ps_for PassesOwn.never rfl (k_enum K rfl (by rfl) T.b_enumerate (pa_cons (pv 9) pa_nil)) (k_tup K rfl rfl (pgs_cons (pg_name (i := 10) nd rfl (Or.inr rfl)) (pgs_cons (pg_name (i := 11) nd rfl (Or.inl rfl)) pgs_nil))) (pss_cons (ps_if (PW.pt (pw_or (pt_not (pt_val (pe_callB (k_isiX K) (by rfl) T.b_isinstance bt_isinstance (pa_cons (pv 11) (pa_cons (pe_gl T.g_TableError) pa_nil))))) (pw_or1 (pt_not (pt_val (pe_callB (k_isiX K) (by rfl) T.b_isinstance bt_isinstance (pa_cons (pv 11) (pa_cons (pe_bltn (v := .ty "ValueError") (by rfl) T.b_ValueError bt_ValueError rfl) pa_nil)))))))) (pss_one (ps_ret pe_bl)) pss_nil)
      (pss_one (ps_if (pt_cmpR (k_ne K rfl hr.units) (k_call K c__law_kinds hr (by decide) (by rfl) (pa_cons (pv 11) pa_nil)) (pe_lc (own := [("_law_at", 13)]) rfl nd (pi_range1 (by rfl) T.b_range (pa_cons pe_int pa_nil)) (blkOk_by (N := ["_law_script", "_law_cell_here", "_law_text", "_law_number", "_law_things", "_law_every", "_law_k", "_law_thing", "_law_other", "_law_some", "_law_j", "_law_one", "_law_found", "_law_at"]) (sc := defScope s_law) (by decide +kernel)) (fun _ _ _ _ _ => (pg_name (i := 13) nd rfl (by first | exact Or.inl rfl | exact Or.inr rfl))) (fun _ _ _ _ _ => pts_nil) (fun _ _ _ _ _ => (pe_cmpR (k_eq K rfl hr.units) (pv 13) (pv 10) (nomark _)))) (nomark _)) (pss_one (ps_ret pe_bl)) pss_nil))))
      (pss_one (ps_expr (k_bm K rfl PySem.F.plainAttrs_list PySem.F.slot_list_append PySem.F.type_list_append mt_append (pv 5) (pa_cons (pe_tup (pa_cons (pv 9) (pa_cons (pv 7) (pa_cons (pv 8) pa_nil)))) pa_nil))))))))
      (pss_cons (ps_for PassesOwn.never rfl (k_it K rfl (pv 5)) (k_tup K rfl rfl (pgs_cons (pg_name (i := 9) nd rfl (Or.inl rfl)) (pgs_cons (pg_name (i := 7) nd rfl (Or.inl rfl)) (pgs_cons (pg_name (i := 8) nd rfl (Or.inl rfl)) pgs_nil)))) (pss_cons (ps_for PassesOwn.never rfl (k_it K rfl (k_call K c__law_kept hr (by decide) (by rfl) (pa_cons (pv 9) pa_nil))) (pg_name (i := 12) nd rfl (Or.inl rfl)) (pss_one (ps_if (pt_not (pt_val (k_call K c__law_same hr (by decide) (by rfl) (pa_cons (pv 12) (pa_cons (pv 7) pa_nil))))) (pss_one (ps_ret pe_bl)) pss_nil)))
      (pss_one (ps_if (pt_not (pt_val (k_call K c__law_same hr (by decide) (by rfl) (pa_cons (k_xv K (pe_ix (k_ix K) (pv 9) pe_int (fun _ _ => rfl))) (pa_cons (pv 8) pa_nil))))) (pss_one (ps_ret pe_bl)) pss_nil))))
      (pss_one (ps_ret pe_bl))))))))), fun I H' ds d hR => ?_⟩)
  cases hR with
  | mk ns h =>
    refine b_seq (b_set (d := .int (ns.getD 0 0)) (e_call0 (R := R__law_cell) (ds := [.fl (ns.map D.int), .int ((0 : Nat) : Int)]) (ea_cons (e_var rfl) (ea_cons e_int ea_nil)) (.mk ns 0 (by omega))) ?_)
    generalize ns.getD 0 0 = c
    refine b_seq (b_set (d := .str (txt c)) ?_ ?_)
    · refine e_join (ys := (List.range (stir c 20 % 9).toNat).map fun (k : Nat) => one L13 (stir c (k : Int) % 13)) e_str (E.c (e_lcY (xs := List.range (stir c 20 % 9).toNat) (em := fun (k : Nat) => D.int (k : Int)) (f := fun (k : Nat) => one L13 (stir c (k : Int) % 13)) (emb := D.str) (src_rng1 (ea_cons (e_op (e_call0 (R := R__law_stir) (ds := [.int c, .int 20]) (ea_cons (e_var rfl) (ea_cons e_int ea_nil)) (.mk c 20 (by decide))) e_int (bin_mod (by decide))) ea_nil) (by omega) (by omega)) (by rw [List.length_range]; omega) ?_) .lst) ?_
      · intro i x hx
        have hx1 := List.mem_range.mp (List.mem_of_getElem? hx)
        refine ⟨_, _, tgt_name, (by simp), ?_⟩
        refine e_op e_str (e_op (e_call0 (R := R__law_stir) (ds := [.int c, .int (x : Int)]) (ea_cons (e_var rfl) (ea_cons (e_var rfl) ea_nil)) (.mk c x (by omega))) e_int (bin_mod (by decide))) (bin_ix_s (by rw [sizeLine_eq]; decide +kernel) ?_)
        exact atI_getD 0 (by omega) (by rw [show (Str.ofString "abcXYZ019+-$ ").cps.toList.length = 13 from L13_len]; omega)
      · rw [List.map_map, List.length_map]
        have e : ∀ l : List Nat, (l.map ((fun s : Str => s.length) ∘ fun (k : Nat) => one L13 (stir c (k : Int) % 13))).sum = l.length := fun l => by
          induction l with
          | nil => rfl
          | cons x l ih => rw [List.map_cons, List.sum_cons, ih, List.length_cons]; show 1 + _ = _; omega
        rw [e, List.length_range]
        have : (Str.ofString "").length = 0 := by decide +kernel
        rw [this]; omega
    have hz := txt_ok c
    generalize txt c = z at hz
    refine b_seq (b_set (d := .int (ns.getD 1 0 % 1000000000000000000000000000000)) (e_op (e_call0 (R := R__law_cell) (ds := [.fl (ns.map D.int), .int ((1 : Nat) : Int)]) (ea_cons (e_var rfl) (ea_cons e_int ea_nil)) (.mk ns 1 (by omega))) (e_op e_int e_int (bin_pow ⟨by decide, by decide, by decide⟩ (r := 1000000000000000000000000000000) (by decide))) (bin_mod (by decide))) ?_)
    generalize ns.getD 1 0 % 1000000000000000000000000000000 = n
    refine b_seq (b_set (d := .lst (things z n)) (e_lst (ea_cons (e_var rfl) (ea_cons (e_var rfl) (ea_cons (e_op e_int (e_var rfl) bin_sub) (ea_cons (e_lst (ea_cons (e_var rfl) (ea_cons (e_var rfl) ea_nil)) (by rw [sizeLine_eq]; exact Nat.le_of_ble_eq_true rfl)) (ea_cons (e_tup (ea_cons (e_var rfl) (ea_cons (e_var rfl) ea_nil)) (by rw [sizeLine_eq]; exact Nat.le_of_ble_eq_true rfl)) (ea_cons e_non (ea_cons e_bl (ea_cons e_bl (ea_cons (e_lst ea_nil (by decide)) (ea_cons e_str (ea_cons e_int ea_nil))))))))))) (by rw [sizeLine_eq]; exact Nat.le_of_ble_eq_true rfl)) ?_)
    have hth := things_ok z n hz
    have hlen : (things z n).length = 11 := rfl
    generalize things z n = ths at hth hlen
    refine b_seq (b_new ea_nil (by decide) (by simp) ?_)
    refine b_seq (b_for (src_enum (ea_cons (e_var rfl) ea_nil) .lst) (S := List (D × D)) (fun i s => s.length = i ∧ ∀ p ∈ s, ThOk p.1 ∧ ThOk p.2) (fun s => [some (.im (.fl (ns.map D.int))), some (.im (.int c)), none, none, some (.im (.lst ths)), some (.mu (.lst (evs cs s)))] ++ List.replicate 8 none) [] ⟨rfl, by simp⟩ (by walk_at "le") ?_ ?_)
    · rintro i s d hd ⟨hs, hp⟩
      obtain ⟨t, ht, rfl⟩ := enumD_get hd
      have hi : i < 11 := by
        have := (List.getElem?_eq_some_iff.mp ht).1
        omega
      have hto := hth t (List.mem_of_getElem? ht)
      have hix : (enumD ths).length = 11 := by unfold enumD; rw [List.length_mapIdx, hlen]
      refine ⟨_, _, tgt_tup (tgs_cons tgt_name (tgs_cons tgt_name tgs_nil)) rfl, ?_⟩
      have ho : ths.getD (((i : Int) + 1 + c) % 11).toNat .non ∈ ths := by
        rw [List.getD_eq_getElem?_getD, List.getElem?_eq_getElem (by omega)]
        exact List.getElem_mem _
      refine b_seq (b_set (d := ths.getD (((i : Int) + 1 + c) % 11).toNat .non) (e_op (e_var rfl) (e_op (e_op (e_op (e_var rfl) e_int bin_add_int) (e_var rfl) bin_add_int) e_int (bin_mod (by decide))) (bin_ix_l .lst ?_)) ?_)
      · exact atI_getD D.non (by omega) (by omega)
      have hoo := hth _ ho
      generalize ths.getD (((i : Int) + 1 + c) % 11).toNat .non = o at hoo
      refine b_seq (b_set (d := .lst (madeD cs t o)) (e_call0 (R := R__law_made cs) (ds := [t, o]) (ea_cons (e_var rfl) (ea_cons (e_var rfl) ea_nil)) (.mk t o)) ?_)
      refine b_seq (b_for (src_enum (ea_cons (e_var rfl) ea_nil) .lst) (S := Unit) (fun _ _ => True) (fun _ => [some (.im (.fl (ns.map D.int))), some (.im (.int c)), none, none, some (.im (.lst ths)), some (.mu (.lst (evs cs s))), none, some (.im t), some (.im o), some (.im (.lst (madeD cs t o)))] ++ List.replicate 4 none) () trivial (by walk_at "le") ?_ ?_)
      · intro j _ x hx _
        obtain ⟨e, he, rfl⟩ := enumD_get hx
        unfold madeD at he
        rw [List.getElem?_map] at he
        cases q : (List.range 17)[j]? with
        | none => rw [q] at he; cases he
        | some j' =>
          rw [q] at he
          cases he
          obtain ⟨hj, e⟩ := List.getElem?_eq_some_iff.mp q
          rw [List.length_range] at hj
          rw [List.getElem_range] at e
          subst e
          obtain ⟨p1, p2⟩ := ixs_in j hj
          refine ⟨_, _, tgt_tup (tgs_cons tgt_name (tgs_cons tgt_name tgs_nil)) rfl, ?_⟩
          have xi := (T.xo _ p1 p2).xi
          refine b_seq (b_if (b := false) (t_is (t_or (a := false) (b := false) (t_is (t_not (t_test (e_cb (ea_cons (e_var rfl) (ea_cons e_ref ea_nil)) (ca_isR xi (T.kit _ 0 p1 p2 (by decide)))))) (by simp)) (fun _ => t_is (t_not (t_test (e_cb (ea_cons (e_var rfl) (ea_cons e_ty ea_nil)) (ca_isRT xi (T.kitV _ p1 p2))))) rfl)) rfl) (fun h_ => by cases h_) (fun _ => b_next ?_))
          refine b_if (b := false) ?_ (fun h_ => by cases h_) (fun _ => b_next ⟨(), trivial, by walk_at "le"⟩)
          have hk := kinds_eq j hj
          refine t_is (t_test (e_op (e_call0 (R := R__law_kinds cs) (ds := [xn cs t o j]) (ea_cons (e_var rfl) ea_nil) (.mk _ p1 p2 _ _)) (e_lcY (xs := List.range 17) (em := fun (a : Nat) => D.int (a : Int)) (f := fun (a : Nat) => decide ((a : Int) = (j : Int))) (emb := D.bl) (src_rng1 (ea_cons e_int ea_nil) (by decide) (by decide)) (by decide) ?_) (bin_neG ?_ ?_ ?_ ?_))) ?_
          · intro i2 a ha
            exact ⟨_, _, tgt_name, (by simp), e_op (e_var rfl) (e_var rfl) bin_eq_int⟩
          all_goals have e1 : (ixs.map fun q => D.bl (ixs.getD j 0 == q || q == 0)) = ((List.range 17).map fun a => decide (a = j)).map D.bl := by rw [← hk, List.map_map]; rfl
          · rw [okD, e1]; exact (bls_ok _).1
          · rw [okD]; exact (bls_ok _).1
          · rw [depD, e1, (bls_ok _).2]; decide
          · rw [depD, (bls_ok _).2]; decide
          · rw [e1, eqD_lst, eqDs_map D.bl eqD_bl]
            have : (List.map (fun a => decide (a = j)) (List.range 17)) = List.map (fun (a : Nat) => decide ((a : Int) = (j : Int))) (List.range 17) := by
              congr 1; funext a; rw [decide_eq_decide]; omega
            rw [this, decide_eq_true rfl]; rfl
      · intro _ _
        refine b_append rfl (e_tup (ea_cons (e_var rfl) (ea_cons (e_var rfl) (ea_cons (e_var rfl) ea_nil))) (by rw [sizeLine_eq]; exact Nat.le_of_ble_eq_true rfl)) ?_ ⟨s ++ [(t, o)], ⟨by rw [List.length_append, hs]; rfl, ?_⟩, ?_⟩
        · rw [evs, List.length_map, hs, sizeLine_eq]; omega
        · intro p hp'
          rw [List.mem_append, List.mem_singleton] at hp'
          rcases hp' with hp' | rfl
          · exact hp p hp'
          · exact ⟨hto, hoo⟩
        · have : evs cs (s ++ [(t, o)]) = evs cs s ++ [.tup [.lst (madeD cs t o), t, o]] := by rw [evs, List.map_append]; rfl
          rw [this]
          walk_at "le"
    · rintro s ⟨hs, hp⟩
      refine b_freeze 5 rfl (by simp) ?_
      refine b_seq (b_for (src_u_l (e_var rfl) .lst) (S := Unit) (fun _ _ => True) (fun _ => List.replicate 14 none) () trivial (by walk_at "le") ?_ ?_)
      · intro i _ d hd _
        unfold evs at hd
        rw [List.getElem?_map] at hd
        cases q : s[i]? with
        | none => rw [q] at hd; cases hd
        | some p =>
          rw [q] at hd
          cases hd
          obtain ⟨h1, h2⟩ := hp p (List.mem_of_getElem? q)
          obtain ⟨t, o⟩ := p
          refine ⟨_, _, tgt_tup (tgs_cons tgt_name (tgs_cons tgt_name (tgs_cons tgt_name tgs_nil))) rfl, ?_⟩
          refine b_seq (b_for (src_u_l (e_call0 (R := R__law_kept cs) (ds := [.lst (madeD cs t o)]) (ea_cons (e_var rfl) ea_nil) (.mk t o)) .lst) (S := Unit) (fun _ _ => True) (fun _ => List.replicate 7 none ++ [some (.im t), some (.im o), some (.im (.lst (madeD cs t o)))] ++ List.replicate 4 none) () trivial (by walk_at "le") ?_ ?_)
          · intro k _ x hx _
            have hx1 := List.mem_of_getElem? hx
            rw [List.mem_replicate] at hx1
            rw [hx1.2]
            exact ⟨_, _, tgt_name, b_if (b := false) (t_is (t_not (t_test (e_call0 (R := R__law_same) (ds := [t, t]) (ea_cons (e_var rfl) (ea_cons (e_var rfl) ea_nil)) (.mk t h1)))) rfl) (fun h_ => by cases h_) (fun _ => b_next ⟨(), trivial, by walk_at "le"⟩)⟩
          · intro _ _
            exact b_if (b := false) (t_is (t_not (t_test (e_call0 (R := R__law_same) (ds := [o, o]) (ea_cons (e_fld T 16 (by decide) (by decide +kernel) (e_op (e_var rfl) e_int (bin_ix_l .lst rfl)) rfl) (ea_cons (e_var rfl) ea_nil)) (.mk o h2)))) rfl) (fun h_ => by cases h_) (fun _ => b_next ⟨(), trivial, by walk_at "le"⟩)
      · intro _ _
        exact b_ret (d := .bl true) e_bl rfl
theorem all_mk {l : PySem.W.OpenLaw} {w : World} {K : PySem.W.Frag} {h : Heap} {mg : Str → Option Value} {fa : Addr} (X : K.In h) (G : h.Ns mainGlobals mg) (hfa : mg "law" = some (.ref fa))
    {od0 an0 : Option Addr} {sl0 : Array (Option Value)} {oc0 kV0 dc0 pm0 cd0 ct0 : Value} {f0 : Addr}
    {od1 an1 : Option Addr} {sl1 : Array (Option Value)} {oc1 kV1 dc1 pm1 cd1 ct1 : Value} {f1 : Addr}
    {od2 an2 : Option Addr} {sl2 : Array (Option Value)} {oc2 kV2 dc2 pm2 cd2 ct2 : Value} {f2 : Addr}
    {od3 an3 : Option Addr} {sl3 : Array (Option Value)} {oc3 kV3 dc3 pm3 cd3 ct3 : Value} {f3 : Addr}
    {od4 an4 : Option Addr} {sl4 : Array (Option Value)} {oc4 kV4 dc4 pm4 cd4 ct4 : Value} {f4 : Addr}
    {od5 an5 : Option Addr} {sl5 : Array (Option Value)} {oc5 kV5 dc5 pm5 cd5 ct5 : Value} {f5 : Addr}
    {od6 an6 : Option Addr} {sl6 : Array (Option Value)} {oc6 kV6 dc6 pm6 cd6 ct6 : Value} {f6 : Addr}
    {xC0 : Addr}
    {xC1 : Addr}
    {xf1 xN1 : Addr} {xod1 xan1 xdd1 : Option Addr} {xsl1 : Array (Option Value)} {xoc1 xkV1 xdc1 xpm1 xcd1 xct1 : Value} {xnm1 xq1 : Str} {xbs1 xbm1 : List Value} {xsn1 : List Str} {xsub1 : List Value} {xab1 : Bool} {xcol1 : Option Bool} {xk01 xk11 xk21 xk31 xk51 : Option Value}
    {xC2 : Addr}
    {xf2 xN2 : Addr} {xod2 xan2 xdd2 : Option Addr} {xsl2 : Array (Option Value)} {xoc2 xkV2 xdc2 xpm2 xcd2 xct2 : Value} {xnm2 xq2 : Str} {xbs2 xbm2 : List Value} {xsn2 : List Str} {xsub2 : List Value} {xab2 : Bool} {xcol2 : Option Bool} {xk02 xk12 xk22 xk32 xk52 : Option Value}
    {xC3 : Addr}
    {xf3 xN3 : Addr} {xod3 xan3 xdd3 : Option Addr} {xsl3 : Array (Option Value)} {xoc3 xkV3 xdc3 xpm3 xcd3 xct3 : Value} {xnm3 xq3 : Str} {xbs3 xbm3 : List Value} {xsn3 : List Str} {xsub3 : List Value} {xab3 : Bool} {xcol3 : Option Bool} {xk03 xk13 xk23 xk33 xk53 : Option Value}
    {xC4 : Addr}
    {xf4 xN4 : Addr} {xod4 xan4 xdd4 : Option Addr} {xsl4 : Array (Option Value)} {xoc4 xkV4 xdc4 xpm4 xcd4 xct4 : Value} {xnm4 xq4 : Str} {xbs4 xbm4 : List Value} {xsn4 : List Str} {xsub4 : List Value} {xab4 : Bool} {xcol4 : Option Bool} {xk04 xk14 xk24 xk34 xk54 : Option Value}
    {xC5 : Addr}
    {xf5 xN5 : Addr} {xod5 xan5 xdd5 : Option Addr} {xsl5 : Array (Option Value)} {xoc5 xkV5 xdc5 xpm5 xcd5 xct5 : Value} {xnm5 xq5 : Str} {xbs5 xbm5 : List Value} {xsn5 : List Str} {xsub5 : List Value} {xab5 : Bool} {xcol5 : Option Bool} {xk05 xk15 xk25 xk35 xk55 : Option Value}
    {xC6 : Addr}
    {xf6 xN6 : Addr} {xod6 xan6 xdd6 : Option Addr} {xsl6 : Array (Option Value)} {xoc6 xkV6 xdc6 xpm6 xcd6 xct6 : Value} {xnm6 xq6 : Str} {xbs6 xbm6 : List Value} {xsn6 : List Str} {xsub6 : List Value} {xab6 : Bool} {xcol6 : Option Bool} {xk06 xk16 xk26 xk36 xk56 : Option Value}
    {xC7 : Addr}
    {xf7 xN7 : Addr} {xod7 xan7 xdd7 : Option Addr} {xsl7 : Array (Option Value)} {xoc7 xkV7 xdc7 xpm7 xcd7 xct7 : Value} {xnm7 xq7 : Str} {xbs7 xbm7 : List Value} {xsn7 : List Str} {xsub7 : List Value} {xab7 : Bool} {xcol7 : Option Bool} {xk07 xk17 xk27 xk37 xk57 : Option Value}
    {xC8 : Addr}
    {xf8 xN8 : Addr} {xod8 xan8 xdd8 : Option Addr} {xsl8 : Array (Option Value)} {xoc8 xkV8 xdc8 xpm8 xcd8 xct8 : Value} {xnm8 xq8 : Str} {xbs8 xbm8 : List Value} {xsn8 : List Str} {xsub8 : List Value} {xab8 : Bool} {xcol8 : Option Bool} {xk08 xk18 xk28 xk38 xk58 : Option Value}
    {xC9 : Addr}
    {xf9 xN9 : Addr} {xod9 xan9 xdd9 : Option Addr} {xsl9 : Array (Option Value)} {xoc9 xkV9 xdc9 xpm9 xcd9 xct9 : Value} {xnm9 xq9 : Str} {xbs9 xbm9 : List Value} {xsn9 : List Str} {xsub9 : List Value} {xab9 : Bool} {xcol9 : Option Bool} {xk09 xk19 xk29 xk39 xk59 : Option Value}
    {xC10 : Addr}
    {xf10 xN10 : Addr} {xod10 xan10 xdd10 : Option Addr} {xsl10 : Array (Option Value)} {xoc10 xkV10 xdc10 xpm10 xcd10 xct10 : Value} {xnm10 xq10 : Str} {xbs10 xbm10 : List Value} {xsn10 : List Str} {xsub10 : List Value} {xab10 : Bool} {xcol10 : Option Bool} {xk010 xk110 xk210 xk310 xk510 : Option Value}
    {xC11 : Addr}
    {xf11 xN11 : Addr} {xod11 xan11 xdd11 : Option Addr} {xsl11 : Array (Option Value)} {xoc11 xkV11 xdc11 xpm11 xcd11 xct11 : Value} {xnm11 xq11 : Str} {xbs11 xbm11 : List Value} {xsn11 : List Str} {xsub11 : List Value} {xab11 : Bool} {xcol11 : Option Bool} {xk011 xk111 xk211 xk311 xk511 : Option Value}
    {xC12 : Addr}
    {xf12 xN12 : Addr} {xod12 xan12 xdd12 : Option Addr} {xsl12 : Array (Option Value)} {xoc12 xkV12 xdc12 xpm12 xcd12 xct12 : Value} {xnm12 xq12 : Str} {xbs12 xbm12 : List Value} {xsn12 : List Str} {xsub12 : List Value} {xab12 : Bool} {xcol12 : Option Bool} {xk012 xk112 xk212 xk312 xk512 : Option Value}
    {xC13 : Addr}
    {xf13 xN13 : Addr} {xod13 xan13 xdd13 : Option Addr} {xsl13 : Array (Option Value)} {xoc13 xkV13 xdc13 xpm13 xcd13 xct13 : Value} {xnm13 xq13 : Str} {xbs13 xbm13 : List Value} {xsn13 : List Str} {xsub13 : List Value} {xab13 : Bool} {xcol13 : Option Bool} {xk013 xk113 xk213 xk313 xk513 : Option Value}
    {xC14 : Addr}
    {xf14 xN14 : Addr} {xod14 xan14 xdd14 : Option Addr} {xsl14 : Array (Option Value)} {xoc14 xkV14 xdc14 xpm14 xcd14 xct14 : Value} {xnm14 xq14 : Str} {xbs14 xbm14 : List Value} {xsn14 : List Str} {xsub14 : List Value} {xab14 : Bool} {xcol14 : Option Bool} {xk014 xk114 xk214 xk314 xk514 : Option Value}
    {xC15 : Addr}
    {xf15 xN15 : Addr} {xod15 xan15 xdd15 : Option Addr} {xsl15 : Array (Option Value)} {xoc15 xkV15 xdc15 xpm15 xcd15 xct15 : Value} {xnm15 xq15 : Str} {xbs15 xbm15 : List Value} {xsn15 : List Str} {xsub15 : List Value} {xab15 : Bool} {xcol15 : Option Bool} {xk015 xk115 xk215 xk315 xk515 : Option Value}
    {xC16 : Addr}
    {xf16 xN16 : Addr} {xod16 xan16 xdd16 : Option Addr} {xsl16 : Array (Option Value)} {xoc16 xkV16 xdc16 xpm16 xcd16 xct16 : Value} {xnm16 xq16 : Str} {xbs16 xbm16 : List Value} {xsn16 : List Str} {xsub16 : List Value} {xab16 : Bool} {xcol16 : Option Bool} {xk016 xk116 xk216 xk316 xk516 : Option Value}
    {xC17 : Addr}
    {xf17 xN17 : Addr} {xod17 xan17 xdd17 : Option Addr} {xsl17 : Array (Option Value)} {xoc17 xkV17 xdc17 xpm17 xcd17 xct17 : Value} {xnm17 xq17 : Str} {xbs17 xbm17 : List Value} {xsn17 : List Str} {xsub17 : List Value} {xab17 : Bool} {xcol17 : Option Bool} {xk017 xk117 xk217 xk317 xk517 : Option Value}
    (a0 : PySem.W.nsIn K mainGlobals "_law_cell" = some (some (.ref f0))) (l0 : K.lookup f0 = some ⟨oc0, od0, .func (PySem.W.fnOf "_law_cell" "_law_cell" (defArgs s__law_cell) (defBody s__law_cell) (defScope s__law_cell) .none kV0 dc0 pm0 an0 cd0 ct0), sl0⟩) (c0 : PySem.W.codeIn K cd0 "_law_cell" = true) (k0 : PySem.W.keepIn K (.ref f0) = true)
    (a1 : PySem.W.nsIn K mainGlobals "_law_stir" = some (some (.ref f1))) (l1 : K.lookup f1 = some ⟨oc1, od1, .func (PySem.W.fnOf "_law_stir" "_law_stir" (defArgs s__law_stir) (defBody s__law_stir) (defScope s__law_stir) .none kV1 dc1 pm1 an1 cd1 ct1), sl1⟩) (c1 : PySem.W.codeIn K cd1 "_law_stir" = true) (k1 : PySem.W.keepIn K (.ref f1) = true)
    (a2 : PySem.W.nsIn K mainGlobals "_law_made" = some (some (.ref f2))) (l2 : K.lookup f2 = some ⟨oc2, od2, .func (PySem.W.fnOf "_law_made" "_law_made" (defArgs s__law_made) (defBody s__law_made) (defScope s__law_made) .none kV2 dc2 pm2 an2 cd2 ct2), sl2⟩) (c2 : PySem.W.codeIn K cd2 "_law_made" = true) (k2 : PySem.W.keepIn K (.ref f2) = true)
    (a3 : PySem.W.nsIn K mainGlobals "_law_kinds" = some (some (.ref f3))) (l3 : K.lookup f3 = some ⟨oc3, od3, .func (PySem.W.fnOf "_law_kinds" "_law_kinds" (defArgs s__law_kinds) (defBody s__law_kinds) (defScope s__law_kinds) .none kV3 dc3 pm3 an3 cd3 ct3), sl3⟩) (c3 : PySem.W.codeIn K cd3 "_law_kinds" = true) (k3 : PySem.W.keepIn K (.ref f3) = true)
    (a4 : PySem.W.nsIn K mainGlobals "_law_kept" = some (some (.ref f4))) (l4 : K.lookup f4 = some ⟨oc4, od4, .func (PySem.W.fnOf "_law_kept" "_law_kept" (defArgs s__law_kept) (defBody s__law_kept) (defScope s__law_kept) .none kV4 dc4 pm4 an4 cd4 ct4), sl4⟩) (c4 : PySem.W.codeIn K cd4 "_law_kept" = true) (k4 : PySem.W.keepIn K (.ref f4) = true)
    (a5 : PySem.W.nsIn K mainGlobals "_law_same" = some (some (.ref f5))) (l5 : K.lookup f5 = some ⟨oc5, od5, .func (PySem.W.fnOf "_law_same" "_law_same" (defArgs s__law_same) (defBody s__law_same) (defScope s__law_same) .none kV5 dc5 pm5 an5 cd5 ct5), sl5⟩) (c5 : PySem.W.codeIn K cd5 "_law_same" = true) (k5 : PySem.W.keepIn K (.ref f5) = true)
    (a6 : PySem.W.nsIn K mainGlobals "law" = some (some (.ref f6))) (l6 : K.lookup f6 = some ⟨oc6, od6, .func (PySem.W.fnOf "law" "law" (defArgs s_law) (defBody s_law) (defScope s_law) .none kV6 dc6 pm6 an6 cd6 ct6), sl6⟩) (c6 : PySem.W.codeIn K cd6 "law" = true) (k6 : PySem.W.keepIn K (.ref f6) = true)
    (xa0 : PySem.W.nsIn K mainGlobals "TableError" = some (some (.ref xC0)))
    (xa1 : PySem.W.nsIn K mainGlobals "NoRule" = some (some (.ref xC1)))
    (xi1 : PySem.W.findIn K (.ref xC1) "__init__" = some (some (.ref xf1))) (xl1 : K.lookup xf1 = some ⟨xoc1, xod1, .func (PySem.W.fnOf "__init__" "NoRule.__init__" (defArgs (clsM 2 0)) (defBody (clsM 2 0)) (defScope (clsM 2 0)) .none xkV1 xdc1 xpm1 xan1 xcd1 xct1), xsl1⟩) (xc1 : PySem.W.codeIn K xcd1 "NoRule.__init__" = true) (xk1 : PySem.W.keepIn K (.ref xf1) = true) (xt1 : PySem.W.typeIn K (.ref xf1) = some (.type "function"))
    (xh1 : K.lookup xC1 = some (excClassObj xnm1 xq1 xC1 xN1 xbs1 xbm1 true xsn1 xsub1 xab1 xcol1 xdd1 xk01 xk11 xk21 xk31 xk51 "ValueError.__new__"))
    (xsa1 : PySem.W.findIn K (.ref xC1) "__setattr__" = some (some (.builtin "object.__setattr__"))) (xex1 : PySem.W.subIn K (.ref xC1) (.type "BaseException") = some true) (xty1 : PySem.W.typeIn K (.ref xC1) = some (.type "type")) (xkC1 : PySem.W.keepIn K (.ref xC1) = true)
    (yb1 : PySem.HandSPX.refsVE xbm1 = true)
    (xa2 : PySem.W.nsIn K mainGlobals "NoRanks" = some (some (.ref xC2)))
    (xi2 : PySem.W.findIn K (.ref xC2) "__init__" = some (some (.ref xf2))) (xl2 : K.lookup xf2 = some ⟨xoc2, xod2, .func (PySem.W.fnOf "__init__" "NoRanks.__init__" (defArgs (clsM 3 0)) (defBody (clsM 3 0)) (defScope (clsM 3 0)) .none xkV2 xdc2 xpm2 xan2 xcd2 xct2), xsl2⟩) (xc2 : PySem.W.codeIn K xcd2 "NoRanks.__init__" = true) (xk2 : PySem.W.keepIn K (.ref xf2) = true) (xt2 : PySem.W.typeIn K (.ref xf2) = some (.type "function"))
    (xh2 : K.lookup xC2 = some (excClassObj xnm2 xq2 xC2 xN2 xbs2 xbm2 true xsn2 xsub2 xab2 xcol2 xdd2 xk02 xk12 xk22 xk32 xk52 "ValueError.__new__"))
    (xsa2 : PySem.W.findIn K (.ref xC2) "__setattr__" = some (some (.builtin "object.__setattr__"))) (xex2 : PySem.W.subIn K (.ref xC2) (.type "BaseException") = some true) (xty2 : PySem.W.typeIn K (.ref xC2) = some (.type "type")) (xkC2 : PySem.W.keepIn K (.ref xC2) = true)
    (yb2 : PySem.HandSPX.refsVE xbm2 = true)
    (xa3 : PySem.W.nsIn K mainGlobals "NoSymbol" = some (some (.ref xC3)))
    (xi3 : PySem.W.findIn K (.ref xC3) "__init__" = some (some (.ref xf3))) (xl3 : K.lookup xf3 = some ⟨xoc3, xod3, .func (PySem.W.fnOf "__init__" "NoSymbol.__init__" (defArgs (clsM 4 0)) (defBody (clsM 4 0)) (defScope (clsM 4 0)) .none xkV3 xdc3 xpm3 xan3 xcd3 xct3), xsl3⟩) (xc3 : PySem.W.codeIn K xcd3 "NoSymbol.__init__" = true) (xk3 : PySem.W.keepIn K (.ref xf3) = true) (xt3 : PySem.W.typeIn K (.ref xf3) = some (.type "function"))
    (xh3 : K.lookup xC3 = some (excClassObj xnm3 xq3 xC3 xN3 xbs3 xbm3 true xsn3 xsub3 xab3 xcol3 xdd3 xk03 xk13 xk23 xk33 xk53 "ValueError.__new__"))
    (xsa3 : PySem.W.findIn K (.ref xC3) "__setattr__" = some (some (.builtin "object.__setattr__"))) (xex3 : PySem.W.subIn K (.ref xC3) (.type "BaseException") = some true) (xty3 : PySem.W.typeIn K (.ref xC3) = some (.type "type")) (xkC3 : PySem.W.keepIn K (.ref xC3) = true)
    (yb3 : PySem.HandSPX.refsVE xbm3 = true)
    (xa4 : PySem.W.nsIn K mainGlobals "NoText" = some (some (.ref xC4)))
    (xi4 : PySem.W.findIn K (.ref xC4) "__init__" = some (some (.ref xf4))) (xl4 : K.lookup xf4 = some ⟨xoc4, xod4, .func (PySem.W.fnOf "__init__" "NoText.__init__" (defArgs (clsM 5 0)) (defBody (clsM 5 0)) (defScope (clsM 5 0)) .none xkV4 xdc4 xpm4 xan4 xcd4 xct4), xsl4⟩) (xc4 : PySem.W.codeIn K xcd4 "NoText.__init__" = true) (xk4 : PySem.W.keepIn K (.ref xf4) = true) (xt4 : PySem.W.typeIn K (.ref xf4) = some (.type "function"))
    (xh4 : K.lookup xC4 = some (excClassObj xnm4 xq4 xC4 xN4 xbs4 xbm4 true xsn4 xsub4 xab4 xcol4 xdd4 xk04 xk14 xk24 xk34 xk54 "ValueError.__new__"))
    (xsa4 : PySem.W.findIn K (.ref xC4) "__setattr__" = some (some (.builtin "object.__setattr__"))) (xex4 : PySem.W.subIn K (.ref xC4) (.type "BaseException") = some true) (xty4 : PySem.W.typeIn K (.ref xC4) = some (.type "type")) (xkC4 : PySem.W.keepIn K (.ref xC4) = true)
    (yb4 : PySem.HandSPX.refsVE xbm4 = true)
    (xa5 : PySem.W.nsIn K mainGlobals "NoTree" = some (some (.ref xC5)))
    (xi5 : PySem.W.findIn K (.ref xC5) "__init__" = some (some (.ref xf5))) (xl5 : K.lookup xf5 = some ⟨xoc5, xod5, .func (PySem.W.fnOf "__init__" "NoTree.__init__" (defArgs (clsM 6 0)) (defBody (clsM 6 0)) (defScope (clsM 6 0)) .none xkV5 xdc5 xpm5 xan5 xcd5 xct5), xsl5⟩) (xc5 : PySem.W.codeIn K xcd5 "NoTree.__init__" = true) (xk5 : PySem.W.keepIn K (.ref xf5) = true) (xt5 : PySem.W.typeIn K (.ref xf5) = some (.type "function"))
    (xh5 : K.lookup xC5 = some (excClassObj xnm5 xq5 xC5 xN5 xbs5 xbm5 true xsn5 xsub5 xab5 xcol5 xdd5 xk05 xk15 xk25 xk35 xk55 "ValueError.__new__"))
    (xsa5 : PySem.W.findIn K (.ref xC5) "__setattr__" = some (some (.builtin "object.__setattr__"))) (xex5 : PySem.W.subIn K (.ref xC5) (.type "BaseException") = some true) (xty5 : PySem.W.typeIn K (.ref xC5) = some (.type "type")) (xkC5 : PySem.W.keepIn K (.ref xC5) = true)
    (yb5 : PySem.HandSPX.refsVE xbm5 = true)
    (xa6 : PySem.W.nsIn K mainGlobals "NoRow" = some (some (.ref xC6)))
    (xi6 : PySem.W.findIn K (.ref xC6) "__init__" = some (some (.ref xf6))) (xl6 : K.lookup xf6 = some ⟨xoc6, xod6, .func (PySem.W.fnOf "__init__" "NoRow.__init__" (defArgs (clsM 7 0)) (defBody (clsM 7 0)) (defScope (clsM 7 0)) .none xkV6 xdc6 xpm6 xan6 xcd6 xct6), xsl6⟩) (xc6 : PySem.W.codeIn K xcd6 "NoRow.__init__" = true) (xk6 : PySem.W.keepIn K (.ref xf6) = true) (xt6 : PySem.W.typeIn K (.ref xf6) = some (.type "function"))
    (xh6 : K.lookup xC6 = some (excClassObj xnm6 xq6 xC6 xN6 xbs6 xbm6 true xsn6 xsub6 xab6 xcol6 xdd6 xk06 xk16 xk26 xk36 xk56 "ValueError.__new__"))
    (xsa6 : PySem.W.findIn K (.ref xC6) "__setattr__" = some (some (.builtin "object.__setattr__"))) (xex6 : PySem.W.subIn K (.ref xC6) (.type "BaseException") = some true) (xty6 : PySem.W.typeIn K (.ref xC6) = some (.type "type")) (xkC6 : PySem.W.keepIn K (.ref xC6) = true)
    (yb6 : PySem.HandSPX.refsVE xbm6 = true)
    (xa7 : PySem.W.nsIn K mainGlobals "NoItem" = some (some (.ref xC7)))
    (xi7 : PySem.W.findIn K (.ref xC7) "__init__" = some (some (.ref xf7))) (xl7 : K.lookup xf7 = some ⟨xoc7, xod7, .func (PySem.W.fnOf "__init__" "NoItem.__init__" (defArgs (clsM 8 0)) (defBody (clsM 8 0)) (defScope (clsM 8 0)) .none xkV7 xdc7 xpm7 xan7 xcd7 xct7), xsl7⟩) (xc7 : PySem.W.codeIn K xcd7 "NoItem.__init__" = true) (xk7 : PySem.W.keepIn K (.ref xf7) = true) (xt7 : PySem.W.typeIn K (.ref xf7) = some (.type "function"))
    (xh7 : K.lookup xC7 = some (excClassObj xnm7 xq7 xC7 xN7 xbs7 xbm7 true xsn7 xsub7 xab7 xcol7 xdd7 xk07 xk17 xk27 xk37 xk57 "ValueError.__new__"))
    (xsa7 : PySem.W.findIn K (.ref xC7) "__setattr__" = some (some (.builtin "object.__setattr__"))) (xex7 : PySem.W.subIn K (.ref xC7) (.type "BaseException") = some true) (xty7 : PySem.W.typeIn K (.ref xC7) = some (.type "type")) (xkC7 : PySem.W.keepIn K (.ref xC7) = true)
    (yb7 : PySem.HandSPX.refsVE xbm7 = true)
    (xa8 : PySem.W.nsIn K mainGlobals "NoPrice" = some (some (.ref xC8)))
    (xi8 : PySem.W.findIn K (.ref xC8) "__init__" = some (some (.ref xf8))) (xl8 : K.lookup xf8 = some ⟨xoc8, xod8, .func (PySem.W.fnOf "__init__" "NoPrice.__init__" (defArgs (clsM 9 0)) (defBody (clsM 9 0)) (defScope (clsM 9 0)) .none xkV8 xdc8 xpm8 xan8 xcd8 xct8), xsl8⟩) (xc8 : PySem.W.codeIn K xcd8 "NoPrice.__init__" = true) (xk8 : PySem.W.keepIn K (.ref xf8) = true) (xt8 : PySem.W.typeIn K (.ref xf8) = some (.type "function"))
    (xh8 : K.lookup xC8 = some (excClassObj xnm8 xq8 xC8 xN8 xbs8 xbm8 true xsn8 xsub8 xab8 xcol8 xdd8 xk08 xk18 xk28 xk38 xk58 "ValueError.__new__"))
    (xsa8 : PySem.W.findIn K (.ref xC8) "__setattr__" = some (some (.builtin "object.__setattr__"))) (xex8 : PySem.W.subIn K (.ref xC8) (.type "BaseException") = some true) (xty8 : PySem.W.typeIn K (.ref xC8) = some (.type "type")) (xkC8 : PySem.W.keepIn K (.ref xC8) = true)
    (yb8 : PySem.HandSPX.refsVE xbm8 = true)
    (xa9 : PySem.W.nsIn K mainGlobals "NoLine" = some (some (.ref xC9)))
    (xi9 : PySem.W.findIn K (.ref xC9) "__init__" = some (some (.ref xf9))) (xl9 : K.lookup xf9 = some ⟨xoc9, xod9, .func (PySem.W.fnOf "__init__" "NoLine.__init__" (defArgs (clsM 10 0)) (defBody (clsM 10 0)) (defScope (clsM 10 0)) .none xkV9 xdc9 xpm9 xan9 xcd9 xct9), xsl9⟩) (xc9 : PySem.W.codeIn K xcd9 "NoLine.__init__" = true) (xk9 : PySem.W.keepIn K (.ref xf9) = true) (xt9 : PySem.W.typeIn K (.ref xf9) = some (.type "function"))
    (xh9 : K.lookup xC9 = some (excClassObj xnm9 xq9 xC9 xN9 xbs9 xbm9 true xsn9 xsub9 xab9 xcol9 xdd9 xk09 xk19 xk29 xk39 xk59 "ValueError.__new__"))
    (xsa9 : PySem.W.findIn K (.ref xC9) "__setattr__" = some (some (.builtin "object.__setattr__"))) (xex9 : PySem.W.subIn K (.ref xC9) (.type "BaseException") = some true) (xty9 : PySem.W.typeIn K (.ref xC9) = some (.type "type")) (xkC9 : PySem.W.keepIn K (.ref xC9) = true)
    (yb9 : PySem.HandSPX.refsVE xbm9 = true)
    (xa10 : PySem.W.nsIn K mainGlobals "NoHead" = some (some (.ref xC10)))
    (xi10 : PySem.W.findIn K (.ref xC10) "__init__" = some (some (.ref xf10))) (xl10 : K.lookup xf10 = some ⟨xoc10, xod10, .func (PySem.W.fnOf "__init__" "NoHead.__init__" (defArgs (clsM 11 0)) (defBody (clsM 11 0)) (defScope (clsM 11 0)) .none xkV10 xdc10 xpm10 xan10 xcd10 xct10), xsl10⟩) (xc10 : PySem.W.codeIn K xcd10 "NoHead.__init__" = true) (xk10 : PySem.W.keepIn K (.ref xf10) = true) (xt10 : PySem.W.typeIn K (.ref xf10) = some (.type "function"))
    (xh10 : K.lookup xC10 = some (excClassObj xnm10 xq10 xC10 xN10 xbs10 xbm10 true xsn10 xsub10 xab10 xcol10 xdd10 xk010 xk110 xk210 xk310 xk510 "ValueError.__new__"))
    (xsa10 : PySem.W.findIn K (.ref xC10) "__setattr__" = some (some (.builtin "object.__setattr__"))) (xex10 : PySem.W.subIn K (.ref xC10) (.type "BaseException") = some true) (xty10 : PySem.W.typeIn K (.ref xC10) = some (.type "type")) (xkC10 : PySem.W.keepIn K (.ref xC10) = true)
    (yb10 : PySem.HandSPX.refsVE xbm10 = true)
    (xa11 : PySem.W.nsIn K mainGlobals "Doubled" = some (some (.ref xC11)))
    (xi11 : PySem.W.findIn K (.ref xC11) "__init__" = some (some (.ref xf11))) (xl11 : K.lookup xf11 = some ⟨xoc11, xod11, .func (PySem.W.fnOf "__init__" "Doubled.__init__" (defArgs (clsM 12 0)) (defBody (clsM 12 0)) (defScope (clsM 12 0)) .none xkV11 xdc11 xpm11 xan11 xcd11 xct11), xsl11⟩) (xc11 : PySem.W.codeIn K xcd11 "Doubled.__init__" = true) (xk11 : PySem.W.keepIn K (.ref xf11) = true) (xt11 : PySem.W.typeIn K (.ref xf11) = some (.type "function"))
    (xh11 : K.lookup xC11 = some (excClassObj xnm11 xq11 xC11 xN11 xbs11 xbm11 true xsn11 xsub11 xab11 xcol11 xdd11 xk011 xk111 xk211 xk311 xk511 "ValueError.__new__"))
    (xsa11 : PySem.W.findIn K (.ref xC11) "__setattr__" = some (some (.builtin "object.__setattr__"))) (xex11 : PySem.W.subIn K (.ref xC11) (.type "BaseException") = some true) (xty11 : PySem.W.typeIn K (.ref xC11) = some (.type "type")) (xkC11 : PySem.W.keepIn K (.ref xC11) = true)
    (yb11 : PySem.HandSPX.refsVE xbm11 = true)
    (xa12 : PySem.W.nsIn K mainGlobals "TooMany" = some (some (.ref xC12)))
    (xi12 : PySem.W.findIn K (.ref xC12) "__init__" = some (some (.ref xf12))) (xl12 : K.lookup xf12 = some ⟨xoc12, xod12, .func (PySem.W.fnOf "__init__" "TooMany.__init__" (defArgs (clsM 13 0)) (defBody (clsM 13 0)) (defScope (clsM 13 0)) .none xkV12 xdc12 xpm12 xan12 xcd12 xct12), xsl12⟩) (xc12 : PySem.W.codeIn K xcd12 "TooMany.__init__" = true) (xk12 : PySem.W.keepIn K (.ref xf12) = true) (xt12 : PySem.W.typeIn K (.ref xf12) = some (.type "function"))
    (xh12 : K.lookup xC12 = some (excClassObj xnm12 xq12 xC12 xN12 xbs12 xbm12 true xsn12 xsub12 xab12 xcol12 xdd12 xk012 xk112 xk212 xk312 xk512 "ValueError.__new__"))
    (xsa12 : PySem.W.findIn K (.ref xC12) "__setattr__" = some (some (.builtin "object.__setattr__"))) (xex12 : PySem.W.subIn K (.ref xC12) (.type "BaseException") = some true) (xty12 : PySem.W.typeIn K (.ref xC12) = some (.type "type")) (xkC12 : PySem.W.keepIn K (.ref xC12) = true)
    (yb12 : PySem.HandSPX.refsVE xbm12 = true)
    (xa13 : PySem.W.nsIn K mainGlobals "Dead" = some (some (.ref xC13)))
    (xi13 : PySem.W.findIn K (.ref xC13) "__init__" = some (some (.ref xf13))) (xl13 : K.lookup xf13 = some ⟨xoc13, xod13, .func (PySem.W.fnOf "__init__" "Dead.__init__" (defArgs (clsM 14 0)) (defBody (clsM 14 0)) (defScope (clsM 14 0)) .none xkV13 xdc13 xpm13 xan13 xcd13 xct13), xsl13⟩) (xc13 : PySem.W.codeIn K xcd13 "Dead.__init__" = true) (xk13 : PySem.W.keepIn K (.ref xf13) = true) (xt13 : PySem.W.typeIn K (.ref xf13) = some (.type "function"))
    (xh13 : K.lookup xC13 = some (excClassObj xnm13 xq13 xC13 xN13 xbs13 xbm13 true xsn13 xsub13 xab13 xcol13 xdd13 xk013 xk113 xk213 xk313 xk513 "ValueError.__new__"))
    (xsa13 : PySem.W.findIn K (.ref xC13) "__setattr__" = some (some (.builtin "object.__setattr__"))) (xex13 : PySem.W.subIn K (.ref xC13) (.type "BaseException") = some true) (xty13 : PySem.W.typeIn K (.ref xC13) = some (.type "type")) (xkC13 : PySem.W.keepIn K (.ref xC13) = true)
    (yb13 : PySem.HandSPX.refsVE xbm13 = true)
    (xa14 : PySem.W.nsIn K mainGlobals "Vast" = some (some (.ref xC14)))
    (xi14 : PySem.W.findIn K (.ref xC14) "__init__" = some (some (.ref xf14))) (xl14 : K.lookup xf14 = some ⟨xoc14, xod14, .func (PySem.W.fnOf "__init__" "Vast.__init__" (defArgs (clsM 15 0)) (defBody (clsM 15 0)) (defScope (clsM 15 0)) .none xkV14 xdc14 xpm14 xan14 xcd14 xct14), xsl14⟩) (xc14 : PySem.W.codeIn K xcd14 "Vast.__init__" = true) (xk14 : PySem.W.keepIn K (.ref xf14) = true) (xt14 : PySem.W.typeIn K (.ref xf14) = some (.type "function"))
    (xh14 : K.lookup xC14 = some (excClassObj xnm14 xq14 xC14 xN14 xbs14 xbm14 true xsn14 xsub14 xab14 xcol14 xdd14 xk014 xk114 xk214 xk314 xk514 "ValueError.__new__"))
    (xsa14 : PySem.W.findIn K (.ref xC14) "__setattr__" = some (some (.builtin "object.__setattr__"))) (xex14 : PySem.W.subIn K (.ref xC14) (.type "BaseException") = some true) (xty14 : PySem.W.typeIn K (.ref xC14) = some (.type "type")) (xkC14 : PySem.W.keepIn K (.ref xC14) = true)
    (yb14 : PySem.HandSPX.refsVE xbm14 = true)
    (xa15 : PySem.W.nsIn K mainGlobals "Open" = some (some (.ref xC15)))
    (xi15 : PySem.W.findIn K (.ref xC15) "__init__" = some (some (.ref xf15))) (xl15 : K.lookup xf15 = some ⟨xoc15, xod15, .func (PySem.W.fnOf "__init__" "Open.__init__" (defArgs (clsM 16 0)) (defBody (clsM 16 0)) (defScope (clsM 16 0)) .none xkV15 xdc15 xpm15 xan15 xcd15 xct15), xsl15⟩) (xc15 : PySem.W.codeIn K xcd15 "Open.__init__" = true) (xk15 : PySem.W.keepIn K (.ref xf15) = true) (xt15 : PySem.W.typeIn K (.ref xf15) = some (.type "function"))
    (xh15 : K.lookup xC15 = some (excClassObj xnm15 xq15 xC15 xN15 xbs15 xbm15 true xsn15 xsub15 xab15 xcol15 xdd15 xk015 xk115 xk215 xk315 xk515 "ValueError.__new__"))
    (xsa15 : PySem.W.findIn K (.ref xC15) "__setattr__" = some (some (.builtin "object.__setattr__"))) (xex15 : PySem.W.subIn K (.ref xC15) (.type "BaseException") = some true) (xty15 : PySem.W.typeIn K (.ref xC15) = some (.type "type")) (xkC15 : PySem.W.keepIn K (.ref xC15) = true)
    (yb15 : PySem.HandSPX.refsVE xbm15 = true)
    (xa16 : PySem.W.nsIn K mainGlobals "NoState" = some (some (.ref xC16)))
    (xi16 : PySem.W.findIn K (.ref xC16) "__init__" = some (some (.ref xf16))) (xl16 : K.lookup xf16 = some ⟨xoc16, xod16, .func (PySem.W.fnOf "__init__" "NoState.__init__" (defArgs (clsM 17 0)) (defBody (clsM 17 0)) (defScope (clsM 17 0)) .none xkV16 xdc16 xpm16 xan16 xcd16 xct16), xsl16⟩) (xc16 : PySem.W.codeIn K xcd16 "NoState.__init__" = true) (xk16 : PySem.W.keepIn K (.ref xf16) = true) (xt16 : PySem.W.typeIn K (.ref xf16) = some (.type "function"))
    (xh16 : K.lookup xC16 = some (excClassObj xnm16 xq16 xC16 xN16 xbs16 xbm16 true xsn16 xsub16 xab16 xcol16 xdd16 xk016 xk116 xk216 xk316 xk516 "ValueError.__new__"))
    (xsa16 : PySem.W.findIn K (.ref xC16) "__setattr__" = some (some (.builtin "object.__setattr__"))) (xex16 : PySem.W.subIn K (.ref xC16) (.type "BaseException") = some true) (xty16 : PySem.W.typeIn K (.ref xC16) = some (.type "type")) (xkC16 : PySem.W.keepIn K (.ref xC16) = true)
    (yb16 : PySem.HandSPX.refsVE xbm16 = true)
    (xa17 : PySem.W.nsIn K mainGlobals "NoPlace" = some (some (.ref xC17)))
    (xi17 : PySem.W.findIn K (.ref xC17) "__init__" = some (some (.ref xf17))) (xl17 : K.lookup xf17 = some ⟨xoc17, xod17, .func (PySem.W.fnOf "__init__" "NoPlace.__init__" (defArgs (clsM 18 0)) (defBody (clsM 18 0)) (defScope (clsM 18 0)) .none xkV17 xdc17 xpm17 xan17 xcd17 xct17), xsl17⟩) (xc17 : PySem.W.codeIn K xcd17 "NoPlace.__init__" = true) (xk17 : PySem.W.keepIn K (.ref xf17) = true) (xt17 : PySem.W.typeIn K (.ref xf17) = some (.type "function"))
    (xh17 : K.lookup xC17 = some (excClassObj xnm17 xq17 xC17 xN17 xbs17 xbm17 true xsn17 xsub17 xab17 xcol17 xdd17 xk017 xk117 xk217 xk317 xk517 "ValueError.__new__"))
    (xsa17 : PySem.W.findIn K (.ref xC17) "__setattr__" = some (some (.builtin "object.__setattr__"))) (xex17 : PySem.W.subIn K (.ref xC17) (.type "BaseException") = some true) (xty17 : PySem.W.typeIn K (.ref xC17) = some (.type "type")) (xkC17 : PySem.W.keepIn K (.ref xC17) = true)
    (yb17 : PySem.HandSPX.refsVE xbm17 = true)
    (xrd : PySem.W.readsIn K xC0 (.type "type") = true) (xga : PySem.W.specialIn K (.ref xC0) "__getattribute__" = some (some (.builtin "type.__getattribute__"))) (xvT : PySem.W.findCls K (.ref xC0) (.type "type") "__init__" = some (.val (.builtin "ValueError.__init__")))
    (ykit : kitT K [xC0, xC1, xC2, xC3, xC4, xC5, xC6, xC7, xC8, xC9, xC10, xC11, xC12, xC13, xC14, xC15, xC16, xC17] = true) (yxo : xoT K [xC0, xC1, xC2, xC3, xC4, xC5, xC6, xC7, xC8, xC9, xC10, xC11, xC12, xC13, xC14, xC15, xC16, xC17] = true)
    (zb_ValueError : PySem.W.nsIn K mainGlobals "ValueError" = some none)
    (zb_bool : PySem.W.nsIn K mainGlobals "bool" = some none)
    (zb_enumerate : PySem.W.nsIn K mainGlobals "enumerate" = some none)
    (zb_isinstance : PySem.W.nsIn K mainGlobals "isinstance" = some none)
    (zb_len : PySem.W.nsIn K mainGlobals "len" = some none)
    (zb_range : PySem.W.nsIn K mainGlobals "range" = some none) :
    ∃ fd : FuncData, (∀ (s : Shared) (v : Value), BindsTo s fd ⟨[v], []⟩ [("_law_script", v)]) ∧ ∀ base : Heap, K.In base → base.Ns mainGlobals mg → FnOk l.prog w K mg base CX0 4 fa fd ["_law_script"] (spLaw K) := by
  have e := hfa.symm.trans (PySem.W.mg_of X G a6)
  cases e
  have T : Txt K [xC0, xC1, xC2, xC3, xC4, xC5, xC6, xC7, xC8, xC9, xC10, xC11, xC12, xC13, xC14, xC15, xC16, xC17] mg := ⟨PySem.W.mg_none_of X G zb_ValueError, PySem.W.mg_none_of X G zb_bool, PySem.W.mg_none_of X G zb_enumerate, PySem.W.mg_none_of X G zb_isinstance, PySem.W.mg_none_of X G zb_len, PySem.W.mg_none_of X G zb_range, xo_of yxo, ⟨_, PySem.W.mg_of X G xa0, rfl⟩, ⟨_, PySem.W.mg_of X G xa1, rfl⟩, ⟨_, PySem.W.mg_of X G xa2, rfl⟩, ⟨_, PySem.W.mg_of X G xa3, rfl⟩, ⟨_, PySem.W.mg_of X G xa4, rfl⟩, ⟨_, PySem.W.mg_of X G xa5, rfl⟩, ⟨_, PySem.W.mg_of X G xa6, rfl⟩, ⟨_, PySem.W.mg_of X G xa7, rfl⟩, ⟨_, PySem.W.mg_of X G xa8, rfl⟩, ⟨_, PySem.W.mg_of X G xa9, rfl⟩, ⟨_, PySem.W.mg_of X G xa10, rfl⟩, ⟨_, PySem.W.mg_of X G xa11, rfl⟩, ⟨_, PySem.W.mg_of X G xa12, rfl⟩, ⟨_, PySem.W.mg_of X G xa13, rfl⟩, ⟨_, PySem.W.mg_of X G xa14, rfl⟩, ⟨_, PySem.W.mg_of X G xa15, rfl⟩, ⟨_, PySem.W.mg_of X G xa16, rfl⟩, ⟨_, PySem.W.mg_of X G xa17, rfl⟩, PySem.W.mg_of X G xa0, ⟨xrd, xga⟩, xvT, kit_of ykit, kitV_of ykit⟩
  have O1 : OexC K xC1 := ⟨⟨_, _, _, _, _, _, _, _, _, _, _, _, _, _, _, xh1, yb1⟩, xsa1, xex1, xty1, xkC1⟩
  have XF1 := fun_mk (st := (clsM 2 0)) xl1 xc1 xk1
  have O2 : OexC K xC2 := ⟨⟨_, _, _, _, _, _, _, _, _, _, _, _, _, _, _, xh2, yb2⟩, xsa2, xex2, xty2, xkC2⟩
  have XF2 := fun_mk (st := (clsM 3 0)) xl2 xc2 xk2
  have O3 : OexC K xC3 := ⟨⟨_, _, _, _, _, _, _, _, _, _, _, _, _, _, _, xh3, yb3⟩, xsa3, xex3, xty3, xkC3⟩
  have XF3 := fun_mk (st := (clsM 4 0)) xl3 xc3 xk3
  have O4 : OexC K xC4 := ⟨⟨_, _, _, _, _, _, _, _, _, _, _, _, _, _, _, xh4, yb4⟩, xsa4, xex4, xty4, xkC4⟩
  have XF4 := fun_mk (st := (clsM 5 0)) xl4 xc4 xk4
  have O5 : OexC K xC5 := ⟨⟨_, _, _, _, _, _, _, _, _, _, _, _, _, _, _, xh5, yb5⟩, xsa5, xex5, xty5, xkC5⟩
  have XF5 := fun_mk (st := (clsM 6 0)) xl5 xc5 xk5
  have O6 : OexC K xC6 := ⟨⟨_, _, _, _, _, _, _, _, _, _, _, _, _, _, _, xh6, yb6⟩, xsa6, xex6, xty6, xkC6⟩
  have XF6 := fun_mk (st := (clsM 7 0)) xl6 xc6 xk6
  have O7 : OexC K xC7 := ⟨⟨_, _, _, _, _, _, _, _, _, _, _, _, _, _, _, xh7, yb7⟩, xsa7, xex7, xty7, xkC7⟩
  have XF7 := fun_mk (st := (clsM 8 0)) xl7 xc7 xk7
  have O8 : OexC K xC8 := ⟨⟨_, _, _, _, _, _, _, _, _, _, _, _, _, _, _, xh8, yb8⟩, xsa8, xex8, xty8, xkC8⟩
  have XF8 := fun_mk (st := (clsM 9 0)) xl8 xc8 xk8
  have O9 : OexC K xC9 := ⟨⟨_, _, _, _, _, _, _, _, _, _, _, _, _, _, _, xh9, yb9⟩, xsa9, xex9, xty9, xkC9⟩
  have XF9 := fun_mk (st := (clsM 10 0)) xl9 xc9 xk9
  have O10 : OexC K xC10 := ⟨⟨_, _, _, _, _, _, _, _, _, _, _, _, _, _, _, xh10, yb10⟩, xsa10, xex10, xty10, xkC10⟩
  have XF10 := fun_mk (st := (clsM 11 0)) xl10 xc10 xk10
  have O11 : OexC K xC11 := ⟨⟨_, _, _, _, _, _, _, _, _, _, _, _, _, _, _, xh11, yb11⟩, xsa11, xex11, xty11, xkC11⟩
  have XF11 := fun_mk (st := (clsM 12 0)) xl11 xc11 xk11
  have O12 : OexC K xC12 := ⟨⟨_, _, _, _, _, _, _, _, _, _, _, _, _, _, _, xh12, yb12⟩, xsa12, xex12, xty12, xkC12⟩
  have XF12 := fun_mk (st := (clsM 13 0)) xl12 xc12 xk12
  have O13 : OexC K xC13 := ⟨⟨_, _, _, _, _, _, _, _, _, _, _, _, _, _, _, xh13, yb13⟩, xsa13, xex13, xty13, xkC13⟩
  have XF13 := fun_mk (st := (clsM 14 0)) xl13 xc13 xk13
  have O14 : OexC K xC14 := ⟨⟨_, _, _, _, _, _, _, _, _, _, _, _, _, _, _, xh14, yb14⟩, xsa14, xex14, xty14, xkC14⟩
  have XF14 := fun_mk (st := (clsM 15 0)) xl14 xc14 xk14
  have O15 : OexC K xC15 := ⟨⟨_, _, _, _, _, _, _, _, _, _, _, _, _, _, _, xh15, yb15⟩, xsa15, xex15, xty15, xkC15⟩
  have XF15 := fun_mk (st := (clsM 16 0)) xl15 xc15 xk15
  have O16 : OexC K xC16 := ⟨⟨_, _, _, _, _, _, _, _, _, _, _, _, _, _, _, xh16, yb16⟩, xsa16, xex16, xty16, xkC16⟩
  have XF16 := fun_mk (st := (clsM 17 0)) xl16 xc16 xk16
  have O17 : OexC K xC17 := ⟨⟨_, _, _, _, _, _, _, _, _, _, _, _, _, _, _, xh17, yb17⟩, xsa17, xex17, xty17, xkC17⟩
  have XF17 := fun_mk (st := (clsM 18 0)) xl17 xc17 xk17
  have F0 := fun_mk (st := s__law_cell) l0 c0 k0
  have D0 : DefAt K mg "_law_cell" "_law_cell" s__law_cell ["_law_script", "_law_k"] := ⟨_, _, F0, PySem.W.mg_of X G a0, F0.binds (ps := ["_law_script", "_law_k"]) fun _ _ _ _ _ _ us hl => match us, hl with | [_, _], _ => rfl⟩
  have F1 := fun_mk (st := s__law_stir) l1 c1 k1
  have D1 : DefAt K mg "_law_stir" "_law_stir" s__law_stir ["_law_cell_here", "_law_k"] := ⟨_, _, F1, PySem.W.mg_of X G a1, F1.binds (ps := ["_law_cell_here", "_law_k"]) fun _ _ _ _ _ _ us hl => match us, hl with | [_, _], _ => rfl⟩
  have F2 := fun_mk (st := s__law_made) l2 c2 k2
  have D2 : DefAt K mg "_law_made" "_law_made" s__law_made ["_law_thing", "_law_other"] := ⟨_, _, F2, PySem.W.mg_of X G a2, F2.binds (ps := ["_law_thing", "_law_other"]) fun _ _ _ _ _ _ us hl => match us, hl with | [_, _], _ => rfl⟩
  have F3 := fun_mk (st := s__law_kinds) l3 c3 k3
  have D3 : DefAt K mg "_law_kinds" "_law_kinds" s__law_kinds ["_law_e"] := ⟨_, _, F3, PySem.W.mg_of X G a3, F3.binds (ps := ["_law_e"]) fun _ _ _ _ _ _ us hl => match us, hl with | [_], _ => rfl⟩
  have F4 := fun_mk (st := s__law_kept) l4 c4 k4
  have D4 : DefAt K mg "_law_kept" "_law_kept" s__law_kept ["_law_some"] := ⟨_, _, F4, PySem.W.mg_of X G a4, F4.binds (ps := ["_law_some"]) fun _ _ _ _ _ _ us hl => match us, hl with | [_], _ => rfl⟩
  have F5 := fun_mk (st := s__law_same) l5 c5 k5
  have D5 : DefAt K mg "_law_same" "_law_same" s__law_same ["_law_one", "_law_other"] := ⟨_, _, F5, PySem.W.mg_of X G a5, F5.binds (ps := ["_law_one", "_law_other"]) fun _ _ _ _ _ _ us hl => match us, hl with | [_, _], _ => rfl⟩
  have F6 := fun_mk (st := s_law) l6 c6 k6
  have D6 : DefAt K mg "law" "law" s_law ["_law_script"] := ⟨_, _, F6, PySem.W.mg_of X G a6, F6.binds (ps := ["_law_script"]) fun _ _ _ _ _ _ us hl => match us, hl with | [_], _ => rfl⟩
  refine ⟨PySem.W.fnOf "law" "law" (defArgs s_law) (defBody s_law) (defScope s_law) .none kV6 dc6 pm6 an6 cd6 ct6, fun s v => .of_eq rfl, fun base _ _ => ?_⟩
  have X_NoRule : XCallee l.prog w K mg base "NoRule" xC1 ["self", "found"] (spI xC1 "found") := ⟨O1, ⟨_, _, xi1, xt1, oki_NoRule T XF1 O1 (T.xo 1 (by decide) (by decide)), XF1.binds (ps := ["self", "found"]) fun _ _ _ _ _ _ us hl => match us, hl with | [_, _], _ => rfl⟩, PySem.W.mg_of X G xa1⟩
  have X_NoRanks : XCallee l.prog w K mg base "NoRanks" xC2 ["self", "found"] (spI xC2 "found") := ⟨O2, ⟨_, _, xi2, xt2, oki_NoRanks T XF2 O2 (T.xo 2 (by decide) (by decide)), XF2.binds (ps := ["self", "found"]) fun _ _ _ _ _ _ us hl => match us, hl with | [_, _], _ => rfl⟩, PySem.W.mg_of X G xa2⟩
  have X_NoSymbol : XCallee l.prog w K mg base "NoSymbol" xC3 ["self", "found"] (spI xC3 "found") := ⟨O3, ⟨_, _, xi3, xt3, oki_NoSymbol T XF3 O3 (T.xo 3 (by decide) (by decide)), XF3.binds (ps := ["self", "found"]) fun _ _ _ _ _ _ us hl => match us, hl with | [_, _], _ => rfl⟩, PySem.W.mg_of X G xa3⟩
  have X_NoText : XCallee l.prog w K mg base "NoText" xC4 ["self", "line"] (spI xC4 "line") := ⟨O4, ⟨_, _, xi4, xt4, oki_NoText T XF4 O4 (T.xo 4 (by decide) (by decide)), XF4.binds (ps := ["self", "line"]) fun _ _ _ _ _ _ us hl => match us, hl with | [_, _], _ => rfl⟩, PySem.W.mg_of X G xa4⟩
  have X_NoTree : XCallee l.prog w K mg base "NoTree" xC5 ["self", "found"] (spI xC5 "found") := ⟨O5, ⟨_, _, xi5, xt5, oki_NoTree T XF5 O5 (T.xo 5 (by decide) (by decide)), XF5.binds (ps := ["self", "found"]) fun _ _ _ _ _ _ us hl => match us, hl with | [_, _], _ => rfl⟩, PySem.W.mg_of X G xa5⟩
  have X_NoRow : XCallee l.prog w K mg base "NoRow" xC6 ["self", "found"] (spI xC6 "found") := ⟨O6, ⟨_, _, xi6, xt6, oki_NoRow T XF6 O6 (T.xo 6 (by decide) (by decide)), XF6.binds (ps := ["self", "found"]) fun _ _ _ _ _ _ us hl => match us, hl with | [_, _], _ => rfl⟩, PySem.W.mg_of X G xa6⟩
  have X_NoItem : XCallee l.prog w K mg base "NoItem" xC7 ["self", "found"] (spI xC7 "found") := ⟨O7, ⟨_, _, xi7, xt7, oki_NoItem T XF7 O7 (T.xo 7 (by decide) (by decide)), XF7.binds (ps := ["self", "found"]) fun _ _ _ _ _ _ us hl => match us, hl with | [_, _], _ => rfl⟩, PySem.W.mg_of X G xa7⟩
  have X_NoPrice : XCallee l.prog w K mg base "NoPrice" xC8 ["self", "found"] (spI xC8 "found") := ⟨O8, ⟨_, _, xi8, xt8, oki_NoPrice T XF8 O8 (T.xo 8 (by decide) (by decide)), XF8.binds (ps := ["self", "found"]) fun _ _ _ _ _ _ us hl => match us, hl with | [_, _], _ => rfl⟩, PySem.W.mg_of X G xa8⟩
  have X_NoLine : XCallee l.prog w K mg base "NoLine" xC9 ["self", "line"] (spI xC9 "line") := ⟨O9, ⟨_, _, xi9, xt9, oki_NoLine T XF9 O9 (T.xo 9 (by decide) (by decide)), XF9.binds (ps := ["self", "line"]) fun _ _ _ _ _ _ us hl => match us, hl with | [_, _], _ => rfl⟩, PySem.W.mg_of X G xa9⟩
  have X_NoHead : XCallee l.prog w K mg base "NoHead" xC10 ["self", "head"] (spI xC10 "head") := ⟨O10, ⟨_, _, xi10, xt10, oki_NoHead T XF10 O10 (T.xo 10 (by decide) (by decide)), XF10.binds (ps := ["self", "head"]) fun _ _ _ _ _ _ us hl => match us, hl with | [_, _], _ => rfl⟩, PySem.W.mg_of X G xa10⟩
  have X_Doubled : XCallee l.prog w K mg base "Doubled" xC11 ["self", "number"] (spI xC11 "number") := ⟨O11, ⟨_, _, xi11, xt11, oki_Doubled T XF11 O11 (T.xo 11 (by decide) (by decide)), XF11.binds (ps := ["self", "number"]) fun _ _ _ _ _ _ us hl => match us, hl with | [_, _], _ => rfl⟩, PySem.W.mg_of X G xa11⟩
  have X_TooMany : XCallee l.prog w K mg base "TooMany" xC12 ["self", "found"] (spI xC12 "found") := ⟨O12, ⟨_, _, xi12, xt12, oki_TooMany T XF12 O12 (T.xo 12 (by decide) (by decide)), XF12.binds (ps := ["self", "found"]) fun _ _ _ _ _ _ us hl => match us, hl with | [_, _], _ => rfl⟩, PySem.W.mg_of X G xa12⟩
  have X_Dead : XCallee l.prog w K mg base "Dead" xC13 ["self", "number"] (spI xC13 "number") := ⟨O13, ⟨_, _, xi13, xt13, oki_Dead T XF13 O13 (T.xo 13 (by decide) (by decide)), XF13.binds (ps := ["self", "number"]) fun _ _ _ _ _ _ us hl => match us, hl with | [_, _], _ => rfl⟩, PySem.W.mg_of X G xa13⟩
  have X_Vast : XCallee l.prog w K mg base "Vast" xC14 ["self", "head"] (spI xC14 "head") := ⟨O14, ⟨_, _, xi14, xt14, oki_Vast T XF14 O14 (T.xo 14 (by decide) (by decide)), XF14.binds (ps := ["self", "head"]) fun _ _ _ _ _ _ us hl => match us, hl with | [_, _], _ => rfl⟩, PySem.W.mg_of X G xa14⟩
  have X_Open : XCallee l.prog w K mg base "Open" xC15 ["self", "state", "ahead"] (spI2 xC15 "state" "ahead") := ⟨O15, ⟨_, _, xi15, xt15, oki_Open T XF15 O15 (T.xo 15 (by decide) (by decide)), XF15.binds (ps := ["self", "state", "ahead"]) fun _ _ _ _ _ _ us hl => match us, hl with | [_, _, _], _ => rfl⟩, PySem.W.mg_of X G xa15⟩
  have X_NoState : XCallee l.prog w K mg base "NoState" xC16 ["self", "state"] (spI xC16 "state") := ⟨O16, ⟨_, _, xi16, xt16, oki_NoState T XF16 O16 (T.xo 16 (by decide) (by decide)), XF16.binds (ps := ["self", "state"]) fun _ _ _ _ _ _ us hl => match us, hl with | [_, _], _ => rfl⟩, PySem.W.mg_of X G xa16⟩
  have X_NoPlace : XCallee l.prog w K mg base "NoPlace" xC17 ["self", "place"] (spI xC17 "place") := ⟨O17, ⟨_, _, xi17, xt17, oki_NoPlace T XF17 O17 (T.xo 17 (by decide) (by decide)), XF17.binds (ps := ["self", "place"]) fun _ _ _ _ _ _ us hl => match us, hl with | [_, _], _ => rfl⟩, PySem.W.mg_of X G xa17⟩
  have C__law_cell := ok__law_cell (P := l.prog) (w := w) (base := base) T D0
  have C__law_stir := ok__law_stir (P := l.prog) (w := w) (base := base) T D1
  have C__law_made := ok__law_made (P := l.prog) (w := w) (base := base) T D2 X_NoRule X_NoRanks X_NoSymbol X_NoTree X_NoRow X_NoItem X_NoPrice X_TooMany X_NoText X_NoLine X_NoHead X_Vast X_Doubled X_Dead X_NoState X_NoPlace X_Open
  have C__law_kinds := ok__law_kinds (P := l.prog) (w := w) (base := base) T D3
  have C__law_kept := ok__law_kept (P := l.prog) (w := w) (base := base) T D4
  have C__law_same := ok__law_same (P := l.prog) (w := w) (base := base) T D5
  have C_law := ok_law (P := l.prog) (w := w) (base := base) T D6 C__law_cell C__law_made C__law_kept C__law_same C__law_kinds C__law_stir
  exact law_fn C_law F6 hfa (fun ns h => .mk ns h)
end G
open PySem PySem.W PyProof.Rows
set_option maxRecDepth 100000 in
set_option maxHeartbeats 0 in
theorem PySem.Challenge.cw_rulestable_k03_refusals_holds : PySem.Challenge.rw_rulestable_k03_refusals.Holds := by
  w_on; o_law; k_head; (case hw => w_witness2)
  k_fill
  refine L2.walk_of (l := PySem.Challenge.rw_rulestable_k03_refusals) (n := 63) (k := 4) (x := "_law_script") (CX := fun _ => L2.CX0) (sp := fun w => G.spLaw _) rfl (by decide) rfl ⟨rfl, by decide, by decide⟩ (fun w h Y => PySem.W.kIn_of Y) ?F (fun _ _ a ns hl _ hS => ⟨a, ns, rfl, hS, hl, fun _ => rfl⟩) (fun _ _ _ _ _ h => h)
  case F =>
    intro w mg fa h KX GG hmg
    refine' G.all_mk KX GG hmg ?a0 ?l0 ?c0 ?k0 ?a1 ?l1 ?c1 ?k1 ?a2 ?l2 ?c2 ?k2 ?a3 ?l3 ?c3 ?k3 ?a4 ?l4 ?c4 ?k4 ?a5 ?l5 ?c5 ?k5 ?a6 ?l6 ?c6 ?k6 ?xa0 ?xa1 ?xi1 ?xl1 ?xc1 ?xk1 ?xt1 ?xh1 ?xsa1 ?xex1 ?xty1 ?xkC1 ?yb1 ?xa2 ?xi2 ?xl2 ?xc2 ?xk2 ?xt2 ?xh2 ?xsa2 ?xex2 ?xty2 ?xkC2 ?yb2 ?xa3 ?xi3 ?xl3 ?xc3 ?xk3 ?xt3 ?xh3 ?xsa3 ?xex3 ?xty3 ?xkC3 ?yb3 ?xa4 ?xi4 ?xl4 ?xc4 ?xk4 ?xt4 ?xh4 ?xsa4 ?xex4 ?xty4 ?xkC4 ?yb4 ?xa5 ?xi5 ?xl5 ?xc5 ?xk5 ?xt5 ?xh5 ?xsa5 ?xex5 ?xty5 ?xkC5 ?yb5 ?xa6 ?xi6 ?xl6 ?xc6 ?xk6 ?xt6 ?xh6 ?xsa6 ?xex6 ?xty6 ?xkC6 ?yb6 ?xa7 ?xi7 ?xl7 ?xc7 ?xk7 ?xt7 ?xh7 ?xsa7 ?xex7 ?xty7 ?xkC7 ?yb7 ?xa8 ?xi8 ?xl8 ?xc8 ?xk8 ?xt8 ?xh8 ?xsa8 ?xex8 ?xty8 ?xkC8 ?yb8 ?xa9 ?xi9 ?xl9 ?xc9 ?xk9 ?xt9 ?xh9 ?xsa9 ?xex9 ?xty9 ?xkC9 ?yb9 ?xa10 ?xi10 ?xl10 ?xc10 ?xk10 ?xt10 ?xh10 ?xsa10 ?xex10 ?xty10 ?xkC10 ?yb10 ?xa11 ?xi11 ?xl11 ?xc11 ?xk11 ?xt11 ?xh11 ?xsa11 ?xex11 ?xty11 ?xkC11 ?yb11 ?xa12 ?xi12 ?xl12 ?xc12 ?xk12 ?xt12 ?xh12 ?xsa12 ?xex12 ?xty12 ?xkC12 ?yb12 ?xa13 ?xi13 ?xl13 ?xc13 ?xk13 ?xt13 ?xh13 ?xsa13 ?xex13 ?xty13 ?xkC13 ?yb13 ?xa14 ?xi14 ?xl14 ?xc14 ?xk14 ?xt14 ?xh14 ?xsa14 ?xex14 ?xty14 ?xkC14 ?yb14 ?xa15 ?xi15 ?xl15 ?xc15 ?xk15 ?xt15 ?xh15 ?xsa15 ?xex15 ?xty15 ?xkC15 ?yb15 ?xa16 ?xi16 ?xl16 ?xc16 ?xk16 ?xt16 ?xh16 ?xsa16 ?xex16 ?xty16 ?xkC16 ?yb16 ?xa17 ?xi17 ?xl17 ?xc17 ?xk17 ?xt17 ?xh17 ?xsa17 ?xex17 ?xty17 ?xkC17 ?yb17 ?xrd ?xga ?xvT ?ykit ?yxo ?zb_ValueError ?zb_bool ?zb_enumerate ?zb_isinstance ?zb_len ?zb_range
    (case a0 => k_is); (case l0 => k_is); (case c0 => k_is); (case k0 => k_is); (case a1 => k_is); (case l1 => k_is); (case c1 => k_is); (case k1 => k_is); (case a2 => k_is); (case l2 => k_is); (case c2 => k_is); (case k2 => k_is); (case a3 => k_is); (case l3 => k_is); (case c3 => k_is); (case k3 => k_is); (case a4 => k_is); (case l4 => k_is); (case c4 => k_is); (case k4 => k_is); (case a5 => k_is); (case l5 => k_is); (case c5 => k_is); (case k5 => k_is); (case a6 => k_is); (case l6 => k_is); (case c6 => k_is); (case k6 => k_is); (case xa0 => k_is); (case xa1 => k_is); (case xi1 => k_is); (case xl1 => k_is); (case xc1 => k_is); (case xk1 => k_is); (case xt1 => k_is); (case xh1 => k_is); (case xsa1 => k_is); (case xex1 => k_is); (case xty1 => k_is); (case xkC1 => k_is); (case yb1 => kernel_rfl); (case xa2 => k_is); (case xi2 => k_is); (case xl2 => k_is); (case xc2 => k_is); (case xk2 => k_is); (case xt2 => k_is); (case xh2 => k_is); (case xsa2 => k_is); (case xex2 => k_is); (case xty2 => k_is); (case xkC2 => k_is); (case yb2 => kernel_rfl); (case xa3 => k_is); (case xi3 => k_is); (case xl3 => k_is); (case xc3 => k_is); (case xk3 => k_is); (case xt3 => k_is); (case xh3 => k_is); (case xsa3 => k_is); (case xex3 => k_is); (case xty3 => k_is); (case xkC3 => k_is); (case yb3 => kernel_rfl); (case xa4 => k_is); (case xi4 => k_is); (case xl4 => k_is); (case xc4 => k_is); (case xk4 => k_is); (case xt4 => k_is); (case xh4 => k_is); (case xsa4 => k_is); (case xex4 => k_is); (case xty4 => k_is); (case xkC4 => k_is); (case yb4 => kernel_rfl); (case xa5 => k_is); (case xi5 => k_is); (case xl5 => k_is); (case xc5 => k_is); (case xk5 => k_is); (case xt5 => k_is); (case xh5 => k_is); (case xsa5 => k_is); (case xex5 => k_is); (case xty5 => k_is); (case xkC5 => k_is); (case yb5 => kernel_rfl); (case xa6 => k_is); (case xi6 => k_is); (case xl6 => k_is); (case xc6 => k_is); (case xk6 => k_is); (case xt6 => k_is); (case xh6 => k_is); (case xsa6 => k_is); (case xex6 => k_is); (case xty6 => k_is); (case xkC6 => k_is); (case yb6 => kernel_rfl); (case xa7 => k_is); (case xi7 => k_is); (case xl7 => k_is); (case xc7 => k_is); (case xk7 => k_is); (case xt7 => k_is); (case xh7 => k_is); (case xsa7 => k_is); (case xex7 => k_is); (case xty7 => k_is); (case xkC7 => k_is); (case yb7 => kernel_rfl); (case xa8 => k_is); (case xi8 => k_is); (case xl8 => k_is); (case xc8 => k_is); (case xk8 => k_is); (case xt8 => k_is); (case xh8 => k_is); (case xsa8 => k_is); (case xex8 => k_is); (case xty8 => k_is); (case xkC8 => k_is); (case yb8 => kernel_rfl); (case xa9 => k_is); (case xi9 => k_is); (case xl9 => k_is); (case xc9 => k_is); (case xk9 => k_is); (case xt9 => k_is); (case xh9 => k_is); (case xsa9 => k_is); (case xex9 => k_is); (case xty9 => k_is); (case xkC9 => k_is); (case yb9 => kernel_rfl); (case xa10 => k_is); (case xi10 => k_is); (case xl10 => k_is); (case xc10 => k_is); (case xk10 => k_is); (case xt10 => k_is); (case xh10 => k_is); (case xsa10 => k_is); (case xex10 => k_is); (case xty10 => k_is); (case xkC10 => k_is); (case yb10 => kernel_rfl); (case xa11 => k_is); (case xi11 => k_is); (case xl11 => k_is); (case xc11 => k_is); (case xk11 => k_is); (case xt11 => k_is); (case xh11 => k_is); (case xsa11 => k_is); (case xex11 => k_is); (case xty11 => k_is); (case xkC11 => k_is); (case yb11 => kernel_rfl); (case xa12 => k_is); (case xi12 => k_is); (case xl12 => k_is); (case xc12 => k_is); (case xk12 => k_is); (case xt12 => k_is); (case xh12 => k_is); (case xsa12 => k_is); (case xex12 => k_is); (case xty12 => k_is); (case xkC12 => k_is); (case yb12 => kernel_rfl); (case xa13 => k_is); (case xi13 => k_is); (case xl13 => k_is); (case xc13 => k_is); (case xk13 => k_is); (case xt13 => k_is); (case xh13 => k_is); (case xsa13 => k_is); (case xex13 => k_is); (case xty13 => k_is); (case xkC13 => k_is); (case yb13 => kernel_rfl); (case xa14 => k_is); (case xi14 => k_is); (case xl14 => k_is); (case xc14 => k_is); (case xk14 => k_is); (case xt14 => k_is); (case xh14 => k_is); (case xsa14 => k_is); (case xex14 => k_is); (case xty14 => k_is); (case xkC14 => k_is); (case yb14 => kernel_rfl); (case xa15 => k_is); (case xi15 => k_is); (case xl15 => k_is); (case xc15 => k_is); (case xk15 => k_is); (case xt15 => k_is); (case xh15 => k_is); (case xsa15 => k_is); (case xex15 => k_is); (case xty15 => k_is); (case xkC15 => k_is); (case yb15 => kernel_rfl); (case xa16 => k_is); (case xi16 => k_is); (case xl16 => k_is); (case xc16 => k_is); (case xk16 => k_is); (case xt16 => k_is); (case xh16 => k_is); (case xsa16 => k_is); (case xex16 => k_is); (case xty16 => k_is); (case xkC16 => k_is); (case yb16 => kernel_rfl); (case xa17 => k_is); (case xi17 => k_is); (case xl17 => k_is); (case xc17 => k_is); (case xk17 => k_is); (case xt17 => k_is); (case xh17 => k_is); (case xsa17 => k_is); (case xex17 => k_is); (case xty17 => k_is); (case xkC17 => k_is); (case yb17 => kernel_rfl); (case xrd => k_is); (case xga => k_is); (case xvT => k_is); (case ykit => kernel_rfl); (case yxo => kernel_rfl); (case zb_ValueError => k_is); (case zb_bool => k_is); (case zb_enumerate => k_is); (case zb_isinstance => k_is); (case zb_len => k_is); (case zb_range => k_is)
#print axioms PySem.Challenge.cw_rulestable_k03_refusals_holds

