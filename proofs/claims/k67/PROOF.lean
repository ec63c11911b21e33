import PyProof.Rows.All
import Wide.All
import OpenK.AllK
import Wide.FinOn
import HandS.ForMost
import HandS.IsInst
import HandS.Wide
import HandS.Walk
import HandS.Exc
import HandS.ExcOwn
import HandS.ExcInit
import HandS.ExcField
import HandS.TryOnly
import HandS.TryMany
import HandS.WordsExc
import HandS.ExcIs
import PyProof.FactsAll.dict
import HandS.TupAny
import KE.LtData
import HandS.ClsMeth
import HandS.ExcValue
import KE.KExcIs
import HandS.Defaults
import HandS.Deep
import HandS.StrMore
import HandS.Rev
import HandS.Zip
import PySem.Challenge.RW_rulestable_k67_kinds_of_words
set_option Elab.async false
set_option linter.all false
set_option maxRecDepth 100000
set_option maxHeartbeats 4000000
namespace G
open PySem L2

/-! ### heaps that grow -/
def Ex (H H' : Hp) : Prop := ∀ a o, H a = some o → H' a = some o
theorem Ex.refl (H : Hp) : Ex H H := fun _ _ h => h
theorem Ex.trans {H H1 H2 : Hp} (a : Ex H H1) (b : Ex H1 H2) : Ex H H2 := fun x o h => b x o (a x o h)
theorem Ex.new {H : Hp} {p : Addr} {o : HO} (h : H p = none) : Ex H (upd H p o) := fun a u e => by
  rw [upd_ne (ne_of_none e h)]
  exact e
theorem Ex.free {H H' : Hp} {p : Addr} (e : Ex H H') (h : H' p = none) : H p = none := by
  cases h1 : H p with
  | none => rfl
  | some o => rw [e p o h1] at h; cases h
theorem ex_rd {H H' : Hp} {a : Addr} {u : HO} (e : Ex H H') (h : Rd H a u) : Rd H' a u := by
  rcases h with h | ⟨o, h⟩
  · exact Or.inl (e a _ h)
  · exact Or.inr ⟨o, e a _ h⟩
theorem ex_l {K : PySem.W.Frag} {H H' : Hp} {a : Addr} {xs : List V} (e : Ex H H') (h : SqL K H a xs) : SqL K H' a xs := by
  rcases h with h | h
  · exact Or.inl (ex_rd e h)
  · exact Or.inr h
theorem ex_t {K : PySem.W.Frag} {H H' : Hp} {a : Addr} {xs : List V} (e : Ex H H') (h : SqT K H a xs) : SqT K H' a xs := by
  rcases h with h | h
  · exact Or.inl (ex_rd e h)
  · exact Or.inr h

/-- I: the part of the heap H that never changes. From (I, H) to (I', H'): nothing but the objects at m has changed -/
structure Gr (m : List Addr) (I H I' H' : Hp) : Prop where
  i : Ex I I'
  ih : Ex I' H'
  h : ∀ a o, a ∉ m → H a = some o → H' a = some o
  th : ∀ a, H a ≠ none → H' a ≠ none
  fr : ∀ a, H a ≠ none → I' a = I a
theorem Gr.refl {m : List Addr} {I H : Hp} (e : Ex I H) : Gr m I H I H := ⟨Ex.refl I, e, fun _ _ _ h => h, fun _ h => h, fun _ _ => rfl⟩
theorem Gr.trans {m : List Addr} {I H I1 H1 I2 H2 : Hp} (a : Gr m I H I1 H1) (b : Gr m I1 H1 I2 H2) : Gr m I H I2 H2 :=
  ⟨a.i.trans b.i, b.ih, fun x o hx h => b.h x o hx (a.h x o hx h), fun x h => b.th x (a.th x h), fun x h => (b.fr x (a.th x h)).trans (a.fr x h)⟩
theorem Gr.weak {m : List Addr} {I H I1 H1 : Hp} (a : Gr [] I H I1 H1) : Gr m I H I1 H1 := ⟨a.i, a.ih, fun x o _ h => a.h x o (by simp) h, a.th, a.fr⟩
theorem Gr.ex {I H I1 H1 : Hp} (a : Gr [] I H I1 H1) : Ex H H1 := fun x o h => a.h x o (by simp) h
theorem Gr.new {m : List Addr} {I H : Hp} {p : Addr} {o : HO} (e : Ex I H) (h : H p = none) : Gr m I H (upd I p o) (upd H p o) where
  i := Ex.new (e.free h)
  ih := fun a u q => by
    by_cases z : a = p
    · subst z; rw [upd_same] at q ⊢; exact q
    · rw [upd_ne z] at q ⊢; exact e a u q
  h := fun a u _ q => Ex.new h a u q
  th := fun a q => by
    cases e1 : H a with
    | none => exact absurd e1 q
    | some u => rw [Ex.new h a u e1]; exact nofun
  fr := fun a q => by
    have z : a ≠ p := fun z => q (z ▸ h)
    rw [upd_ne z]
/-- a new object that is not among what stays -/
theorem Gr.junk {m : List Addr} {I H : Hp} {p : Addr} {o : HO} (e : Ex I H) (h : H p = none) : Gr m I H I (upd H p o) where
  i := Ex.refl I
  ih := e.trans (Ex.new h)
  h := fun a u _ q => Ex.new h a u q
  th := fun a q => by
    cases e1 : H a with
    | none => exact absurd e1 q
    | some u => rw [Ex.new h a u e1]; exact nofun
  fr := fun _ _ => rfl
theorem Gr.none_i {m : List Addr} {I H I1 H1 : Hp} (g : Gr m I H I1 H1) {a : Addr} (hi : I a = none) (hh : H a ≠ none) : I1 a = none := (g.fr a hh).trans hi

/-- at a: an exception that was caught, of the class cls, its dict at d -/
def exx (a : Addr) (cls : Value) (d : Option Addr) : HO := .ext fun h => ∃ (oe : Obj) (vs : Array Value), h.get? a = some oe ∧ Zc cls d oe ∧ oe.data = .fields vs
theorem exx_ok {P : Program} {w : World} {H : Hp} {h : Heap} {a : Addr} {cls : Value} {d : Option Addr} {oe : Obj} {vs : Array Value} (e : h.get? a = some oe) (z : Zc cls d oe) (q : oe.data = .fields vs) : ObjOk P w H h a (exx a cls d) :=
  ⟨⟨oe, vs, e, z, q⟩, ⟨oe, e⟩, fun _ _ ⟨o, v, q, r⟩ k => ⟨o, v, k o q, r⟩⟩
/-- an exception stands at a, made or caught -/
def ExnAt (I : Hp) (a C dx : Addr) : Prop := I a = some (exo a C (some dx)) ∨ I a = some (exx a (.ref C) (some dx))
/-- its dict -/
def ExdAt (I : Hp) (dx : Addr) (fs : List (Str × V)) : Prop := I dx = some (exd dx fs) ∨ I dx = some (.xd fs)
theorem ExnAt.mono {I I' : Hp} {a C dx : Addr} (e : Ex I I') : ExnAt I a C dx → ExnAt I' a C dx := fun h => h.imp (e _ _) (e _ _)
theorem ExdAt.mono {I I' : Hp} {dx : Addr} {fs : List (Str × V)} (e : Ex I I') : ExdAt I dx fs → ExdAt I' dx fs := fun h => h.imp (e _ _) (e _ _)
/-! ### data -/
inductive D where
  | non | bl (b : Bool) | int (i : Int) | str (s : Str) | lst (ds : List D) | tup (ds : List D)
  | dic (ks : List Key) (ds : List D) | obj (C : Addr) (ns : List Str) (ds : List D)
  | fl (ds : List D) | ty (n : String) | ref (a : Addr) | exn (C : Addr) (ns : List Str) (ds : List D)
mutual
inductive Rp (K : PySem.W.Frag) (I : Hp) : V → D → Prop
  | non : Rp K I .non .non
  | bl (b : Bool) : Rp K I (.bl b) (.bl b)
  | int (i : Int) : Rp K I (.int i) (.int i)
  | str (x : Str) : Rp K I (.str x) (.str x)
  | lst {a : Addr} {xs : List V} {ds : List D} : I a = some (.lst xs) → Rps K I xs ds → Rp K I (.ref a) (.lst ds)
  | fl {a : Addr} {xs : List V} {ds : List D} : SqL K I a xs → Rps K I xs ds → Rp K I (.ref a) (.fl ds)
  | ty (n : String) : Rp K I (.ty n) (.ty n)
  | ref (a : Addr) : Rp K I (.ref a) (.ref a)
  | tup {a : Addr} {xs : List V} {ds : List D} : SqT K I a xs → Rps K I xs ds → Rp K I (.ref a) (.tup ds)
  | dic {a : Addr} {ks : List Key} {xs : List V} {ds : List D} : I a = some (.dK (ks.zip xs)) → ks.length = xs.length → Rps K I xs ds → Rp K I (.ref a) (.dic ks ds)
  | obj {a C dx : Addr} {ns : List Str} {xs : List V} {ds : List D} : I a = some (.ins C dx (ns.zip xs)) → ns.length = xs.length → Rps K I xs ds → Rp K I (.ref a) (.obj C ns ds)
  | exn {a C dx : Addr} {ns : List Str} {xs : List V} {ds : List D} : ExnAt I a C dx → ExdAt I dx (ns.zip xs) → ns.length = xs.length → Rps K I xs ds → Rp K I (.ref a) (.exn C ns ds)
inductive Rps (K : PySem.W.Frag) (I : Hp) : List V → List D → Prop
  | nil : Rps K I [] []
  | cons {v : V} {vs : List V} {d : D} {ds : List D} : Rp K I v d → Rps K I vs ds → Rps K I (v :: vs) (d :: ds)
end
section
variable {K : PySem.W.Frag} {I I' : Hp}
mutual
theorem Rp.mono (e : Ex I I') : ∀ {v : V} {d : D}, Rp K I v d → Rp K I' v d
  | _, _, .non => .non
  | _, _, .bl b => .bl b
  | _, _, .int i => .int i
  | _, _, .str x => .str x
  | _, _, .lst h r => .lst (e _ _ h) (Rps.mono e r)
  | _, _, .fl h r => .fl (ex_l e h) (Rps.mono e r)
  | _, _, .ty n => .ty n
  | _, _, .ref a => .ref a
  | _, _, .tup h r => .tup (ex_t e h) (Rps.mono e r)
  | _, _, .dic h l r => .dic (e _ _ h) l (Rps.mono e r)
  | _, _, .obj h l r => .obj (e _ _ h) l (Rps.mono e r)
  | _, _, .exn h g l r => .exn (h.mono e) (g.mono e) l (Rps.mono e r)
theorem Rps.mono (e : Ex I I') : ∀ {vs : List V} {ds : List D}, Rps K I vs ds → Rps K I' vs ds
  | _, _, .nil => .nil
  | _, _, .cons h r => .cons (Rp.mono e h) (Rps.mono e r)
end
theorem Rps.length : ∀ {vs : List V} {ds : List D}, Rps K I vs ds → vs.length = ds.length
  | _, _, .nil => rfl
  | _, _, .cons _ r => congrArg (· + 1) (Rps.length r)
theorem Rps.append : ∀ {vs ws : List V} {ds es : List D}, Rps K I vs ds → Rps K I ws es → Rps K I (vs ++ ws) (ds ++ es)
  | _, _, _, _, .nil, s => s
  | _, _, _, _, .cons h r, s => .cons h (Rps.append r s)
theorem Rps.get : ∀ {vs : List V} {ds : List D} {i : Nat} {d : D}, Rps K I vs ds → ds[i]? = some d → ∃ v, vs[i]? = some v ∧ Rp K I v d
  | _, _, _, _, .nil, e => by simp at e
  | _, _, 0, _, .cons h _, e => by simp at e; subst e; exact ⟨_, rfl, h⟩
  | _, _, i + 1, _, .cons _ r, e => by
    obtain ⟨v, h1, h2⟩ := Rps.get (i := i) r (by simpa using e)
    exact ⟨v, by simpa using h1, h2⟩
theorem Rps.getV : ∀ {vs : List V} {ds : List D} {i : Nat} {v : V}, Rps K I vs ds → vs[i]? = some v → ∃ d, ds[i]? = some d ∧ Rp K I v d
  | _, _, _, _, .nil, e => by simp at e
  | _, _, 0, _, .cons h _, e => by simp at e; subst e; exact ⟨_, rfl, h⟩
  | _, _, i + 1, _, .cons _ r, e => by
    obtain ⟨v, h1, h2⟩ := Rps.getV (i := i) r (by simpa using e)
    exact ⟨v, by simpa using h1, h2⟩
theorem Rps.take : ∀ {vs : List V} {ds : List D} (n : Nat), Rps K I vs ds → Rps K I (vs.take n) (ds.take n)
  | _, _, 0, _ => .nil
  | _, _, _ + 1, .nil => .nil
  | _, _, n + 1, .cons h r => .cons h (Rps.take n r)
theorem Rps.drop : ∀ {vs : List V} {ds : List D} (n : Nat), Rps K I vs ds → Rps K I (vs.drop n) (ds.drop n)
  | _, _, 0, r => r
  | _, _, _ + 1, .nil => .nil
  | _, _, n + 1, .cons _ r => Rps.drop n r
theorem Rps.set {v : V} {d : D} (h : Rp K I v d) : ∀ {vs : List V} {ds : List D} (n : Nat), Rps K I vs ds → Rps K I (vs.set n v) (ds.set n d)
  | _, _, _, .nil => .nil
  | _, _, 0, .cons _ r => .cons h r
  | _, _, n + 1, .cons q r => .cons q (Rps.set h n r)
theorem Rps.one {v : V} {d : D} (h : Rp K I v d) : Rps K I [v] [d] := .cons h .nil
/-- flat data: what it is does not lean on the heap -/
def flat : D → Bool
  | .non => true
  | .bl _ => true
  | .int _ => true
  | .str _ => true
  | .ty _ => true
  | .ref _ => true
  | _ => false
theorem Rp.flat {v : V} {d : D} (h : Rp K I v d) (f : flat d = true) : Rp K I' v d := by
  cases h <;> first | exact .non | exact .bl _ | exact .int _ | exact .str _ | exact .ty _ | exact .ref _ | (cases f)
/-- a list's items -/
inductive LD : D → List D → Prop
  | lst {ds : List D} : LD (.lst ds) ds
  | fl {ds : List D} : LD (.fl ds) ds
theorem Rp.l {v : V} {d : D} {ds : List D} (r : Rp K I v d) (h : LD d ds) : ∃ a vs, v = .ref a ∧ SqL K I a vs ∧ Rps K I vs ds := by
  cases h with
  | lst => cases r with | lst a b => exact ⟨_, _, rfl, .inl (.inl a), b⟩
  | fl => cases r with | fl a b => exact ⟨_, _, rfl, a, b⟩
theorem rps_ints : ∀ {vs : List V} {ns : List Int}, Rps K I vs (ns.map D.int) → vs = ns.map V.int
  | _, [], .nil => rfl
  | _, n :: ns, .cons (.int _) r => congrArg (V.int n :: ·) (rps_ints r)
theorem rps_of_ints : ∀ {ns : List Int}, Rps K I (ns.map V.int) (ns.map D.int)
  | [] => .nil
  | n :: ns => .cons (.int n) rps_of_ints
theorem rps_strs : ∀ {vs : List V} {ns : List Str}, Rps K I vs (ns.map D.str) → vs = ns.map V.str
  | _, [], .nil => rfl
  | _, n :: ns, .cons (.str _) r => congrArg (V.str n :: ·) (rps_strs r)
theorem rps_bls : ∀ {vs : List V} {ns : List Bool}, Rps K I vs (ns.map D.bl) → vs = ns.map V.bl
  | _, [], .nil => rfl
  | _, n :: ns, .cons (.bl _) r => congrArg (V.bl n :: ·) (rps_bls r)
end

/-! ### the slots: nothing known, an immutable value, an object of the def's own that may change -/
inductive SV where
  | im (d : D) | mu (d : D)
abbrev Sl := List (Option SV)
inductive MRp (K : PySem.W.Frag) (I : Hp) : HO → D → Prop
  | lst {vs : List V} {ds : List D} (h : Rps K I vs ds) : MRp K I (.lst vs) (.lst ds)
  | dic {ks : List Key} {vs : List V} {ds : List D} (l : ks.length = vs.length) (h : Rps K I vs ds) : MRp K I (.dK (ks.zip vs)) (.dic ks ds)
  | ins {C dx : Addr} {ns : List Str} {vs : List V} {ds : List D} (l : ns.length = vs.length) (h : Rps K I vs ds) : MRp K I (.ins C dx (ns.zip vs)) (.obj C ns ds)
theorem MRp.mono {K : PySem.W.Frag} {I I' : Hp} (e : Ex I I') {o : HO} {d : D} (h : MRp K I o d) : MRp K I' o d := by
  cases h with
  | lst h => exact .lst (h.mono e)
  | dic l h => exact .dic l (h.mono e)
  | ins l h => exact .ins l (h.mono e)
/-- what the slots hold -/
def SlOk (K : PySem.W.Frag) (I : Hp) (σ : St) (H : Hp) (as : Nat → Addr) (i : Nat) : SV → Prop
  | .im d => ∃ v, σ[i]? = some (some v) ∧ Rp K I v d
  | .mu d => σ[i]? = some (some (.ref (as i))) ∧ I (as i) = none ∧ ∃ o, H (as i) = some o ∧ MRp K I o d
structure Lo (K : PySem.W.Frag) (I : Hp) (σ : St) (H : Hp) (as : Nat → Addr) (Γ : Sl) : Prop where
  at_ : ∀ i s, Γ[i]? = some (some s) → SlOk K I σ H as i s
  ne : ∀ i j d e, Γ[i]? = some (some (.mu d)) → Γ[j]? = some (some (.mu e)) → i ≠ j → as i ≠ as j
  len : σ.length = Γ.length
section
variable {K : PySem.W.Frag} {I I' H H' : Hp} {σ : St} {as : Nat → Addr} {Γ : Sl}
theorem SlOk.mono (g : Gr [] I H I' H') {i : Nat} : ∀ {s : SV}, SlOk K I σ H as i s → SlOk K I' σ H' as i s
  | .im _, ⟨v, h, r⟩ => ⟨v, h, r.mono g.i⟩
  | .mu _, ⟨h, n, o, ho, r⟩ => ⟨h, g.none_i n (by rw [ho]; exact nofun), o, g.ex _ _ ho, r.mono g.i⟩
theorem Lo.mono (g : Gr [] I H I' H') (l : Lo K I σ H as Γ) : Lo K I' σ H' as Γ := ⟨fun i s h => (l.at_ i s h).mono g, l.ne, l.len⟩
end

/-! ### judgements over readings -/
section
variable (K : PySem.W.Frag)
/-- te gives (a value of) d -/
def E (Γ : Sl) (te : TE) (d : D) : Prop := ∀ (I : Hp) (σ : St) (H : Hp) (as : Nat → Addr), Ex I H → Lo K I σ H as Γ → ∀ Q : VK, (∀ I' H' v, Gr [] I H I' H' → Rp K I' v d → Q v H') → te σ H Q
/-- te gives a list of ds; the list itself may be one that changes -/
def C (Γ : Sl) (te : TE) (ds : List D) : Prop := ∀ (I : Hp) (σ : St) (H : Hp) (as : Nat → Addr), Ex I H → Lo K I σ H as Γ → ∀ Q : VK, (∀ I' H' a vs, Gr [] I H I' H' → SqL K H' a vs → Rps K I' vs ds → Q (.ref a) H') → te σ H Q
def EA (Γ : Sl) (ta : TA) (ds : List D) : Prop := ∀ (I : Hp) (σ : St) (H : Hp) (as : Nat → Addr), Ex I H → Lo K I σ H as Γ → ∀ Q : List V → Hp → Prop, (∀ I' H' vs, Gr [] I H I' H' → Rps K I' vs ds → Q vs H') → ta σ H Q
def T (Γ : Sl) (tt : TT) (b : Bool) : Prop := ∀ (I : Hp) (σ : St) (H : Hp) (as : Nat → Addr), Ex I H → Lo K I σ H as Γ → ∀ Q : Bool → Hp → Prop, (∀ I' H', Gr [] I H I' H' → Q b H') → tt σ H Q
def EO (Γ : Sl) (to : TO) (o : Option Int) : Prop := ∀ (I : Hp) (σ : St) (H : Hp) (as : Nat → Addr), Ex I H → Lo K I σ H as Γ → ∀ Q : Option Int → Hp → Prop, (∀ I' H', Gr [] I H I' H' → Q o H') → to σ H Q
/-- an operation on values -/
def Bin (r : R2) (x y d : D) : Prop := ∀ (I H : Hp) (u v : V), Ex I H → Rp K I u x → Rp K I v y → ∀ Q : VK, (∀ I' H' v, Gr [] I H I' H' → Rp K I' v d → Q v H') → r u v H Q
def Un1 (r : V → Hp → VK → Prop) (x d : D) : Prop := ∀ (I H : Hp) (u : V), Ex I H → Rp K I u x → ∀ Q : VK, (∀ I' H' v, Gr [] I H I' H' → Rp K I' v d → Q v H') → r u H Q
def Ca (r : List V → Hp → VK → Prop) (xs : List D) (d : D) : Prop := ∀ (I H : Hp) (us : List V), Ex I H → Rps K I us xs → ∀ Q : VK, (∀ I' H' v, Gr [] I H I' H' → Rp K I' v d → Q v H') → r us H Q
end
section
variable {K : PySem.W.Frag} {Γ : Sl} {te ta tb : TE} {d x y : D} {ds : List D}
theorem E.c (h : E K Γ te d) (hl : LD d ds) : C K Γ te ds := fun I σ H as e l Q q => h I σ H as e l Q fun I' H' v g r => by
  obtain ⟨a, vs, rfl, hs, hr⟩ := r.l hl
  exact q I' H' _ _ g (ex_l g.ih hs) hr
theorem e_var {i : Nat} (h : Γ[i]? = some (some (.im d))) : E K Γ (tVar i) d := fun I σ H as e l Q q => by
  obtain ⟨v, hv, r⟩ := l.at_ i _ h
  exact ⟨v, hv, q I H v (Gr.refl e) r⟩
theorem c_var {i : Nat} (h : Γ[i]? = some (some (.mu (.lst ds)))) : C K Γ (tVar i) ds := fun I σ H as e l Q q => by
  obtain ⟨hv, hn, o, ho, r⟩ := l.at_ i _ h
  cases r with
  | lst r => exact ⟨_, hv, q I H _ _ (Gr.refl e) (.inl (.inl ho)) r⟩
theorem e_int {i : Int} : E K Γ (tC (.int i)) (.int i) := fun I σ H as e _ Q q => q I H _ (Gr.refl e) (.int i)
theorem e_str {i : Str} : E K Γ (tC (.str i)) (.str i) := fun I σ H as e _ Q q => q I H _ (Gr.refl e) (.str i)
theorem e_bl {i : Bool} : E K Γ (tC (.bl i)) (.bl i) := fun I σ H as e _ Q q => q I H _ (Gr.refl e) (.bl i)
theorem e_non : E K Γ (tC .non) .non := fun I σ H as e _ Q q => q I H _ (Gr.refl e) .non
theorem e_op {r : R2} (ha : E K Γ ta x) (hb : E K Γ tb y) (hr : Bin K r x y d) : E K Γ (tOp r ta tb) d := fun I σ H as e l Q q =>
  ha I σ H as e l _ fun I1 H1 v g1 r1 => hb I1 σ H1 as g1.ih (l.mono g1) _ fun I2 H2 w g2 r2 => hr I2 H2 v w g2.ih (r1.mono g2.i) r2 Q fun I3 H3 z g3 r3 => q I3 H3 z ((g1.trans g2).trans g3) r3
theorem e_un {r : V → Hp → VK → Prop} (ha : E K Γ ta x) (hr : Un1 K r x d) : E K Γ (tUn r ta) d := fun I σ H as e l Q q =>
  ha I σ H as e l _ fun I1 H1 v g1 r1 => hr I1 H1 v g1.ih r1 Q fun I3 H3 z g3 r3 => q I3 H3 z (g1.trans g3) r3
theorem ea_nil : EA K Γ tNil [] := fun I σ H as e _ Q q => q I H _ (Gr.refl e) .nil
theorem ea_cons {tr : TA} (ha : E K Γ ta x) (hr : EA K Γ tr ds) : EA K Γ (tCons ta tr) (x :: ds) := fun I σ H as e l Q q =>
  ha I σ H as e l _ fun I1 H1 v g1 r1 => hr I1 σ H1 as g1.ih (l.mono g1) _ fun I2 H2 vs g2 r2 => q I2 H2 _ (g1.trans g2) (.cons (r1.mono g2.i) r2)
theorem e_cb {r : List V → Hp → VK → Prop} {ta : TA} (ha : EA K Γ ta ds) (hr : Ca K r ds d) : E K Γ (tCB r ta) d := fun I σ H as e l Q q =>
  ha I σ H as e l _ fun I1 H1 v g1 r1 => hr I1 H1 v g1.ih r1 Q fun I3 H3 z g3 r3 => q I3 H3 z (g1.trans g3) r3
theorem e_tup {ta : TA} (ha : EA K Γ ta ds) (hl : ds.length ≤ sizeLine) : E K Γ (tTup ta) (.tup ds) := fun I σ H as e l Q q =>
  ha I σ H as e l _ fun I1 H1 vs g1 r1 => ⟨by rw [r1.length]; exact hl, fun p hp => q _ _ _ (g1.trans (Gr.new g1.ih hp)) (.tup (.inl (.inl upd_same)) (r1.mono (Ex.new (g1.ih.free hp))))⟩
theorem e_lst {ta : TA} (ha : EA K Γ ta ds) (hl : ds.length ≤ sizeLine) : E K Γ (tLst ta) (.lst ds) := fun I σ H as e l Q q =>
  ha I σ H as e l _ fun I1 H1 vs g1 r1 => ⟨by rw [r1.length]; exact hl, fun p hp => q _ _ _ (g1.trans (Gr.new g1.ih hp)) (.lst upd_same (r1.mono (Ex.new (g1.ih.free hp))))⟩
theorem e_if {t : TT} {b : Bool} (h : T K Γ t b) (h1 : b = true → E K Γ ta d) (h2 : b = false → E K Γ tb d) : E K Γ (tIf t ta tb) d := fun I σ H as e l Q q =>
  h I σ H as e l _ fun I1 H1 g1 => by
    cases b with
    | true => exact h1 rfl I1 σ H1 as g1.ih (l.mono g1) Q fun I2 H2 v g2 r2 => q I2 H2 v (g1.trans g2) r2
    | false => exact h2 rfl I1 σ H1 as g1.ih (l.mono g1) Q fun I2 H2 v g2 r2 => q I2 H2 v (g1.trans g2) r2
/-! ### tests -/
theorem t_test {b : Bool} (h : E K Γ te (.bl b)) : T K Γ (tTest te) b := fun I σ H as e l Q q => h I σ H as e l _ fun I1 H1 v g1 r1 => by
  cases r1
  exact ⟨b, rfl, q I1 H1 g1⟩
theorem t_b {b : Bool} (h : E K Γ te (.bl b)) : T K Γ (tB te) b := fun I σ H as e l Q q => h I σ H as e l _ fun I1 H1 v g1 r1 => by
  cases r1
  exact ⟨b, rfl, q I1 H1 g1⟩
theorem t_not {t : TT} {b : Bool} (h : T K Γ t b) : T K Γ (tNot t) (!b) := fun I σ H as e l Q q => h I σ H as e l _ fun I1 H1 g1 => q I1 H1 g1
theorem t_and {t u : TT} {a b : Bool} (h1 : T K Γ t a) (h2 : a = true → T K Γ u b) : T K Γ (tAnd t u) (a && b) := fun I σ H as e l Q q => h1 I σ H as e l _ fun I1 H1 g1 => by
  cases a with
  | true => exact h2 rfl I1 σ H1 as g1.ih (l.mono g1) Q fun I2 H2 g2 => q I2 H2 (g1.trans g2)
  | false => exact q I1 H1 g1
theorem t_or {t u : TT} {a b : Bool} (h1 : T K Γ t a) (h2 : a = false → T K Γ u b) : T K Γ (tOr t u) (a || b) := fun I σ H as e l Q q => h1 I σ H as e l _ fun I1 H1 g1 => by
  cases a with
  | true => exact q I1 H1 g1
  | false => exact h2 rfl I1 σ H1 as g1.ih (l.mono g1) Q fun I2 H2 g2 => q I2 H2 (g1.trans g2)
theorem t_yes : T K Γ tYes true := fun I σ H as e l Q q => q I H (Gr.refl e)
theorem e_andV {a b : Bool} (h1 : E K Γ ta (.bl a)) (h2 : a = true → E K Γ tb (.bl b)) : E K Γ (tAndV ta tb) (.bl (a && b)) := fun I σ H as e l Q q => h1 I σ H as e l _ fun I1 H1 v g1 r1 => by
  cases r1
  refine ⟨a, rfl, ?_⟩
  cases a with
  | true => exact h2 rfl I1 σ H1 as g1.ih (l.mono g1) Q fun I2 H2 w g2 r2 => q I2 H2 w (g1.trans g2) r2
  | false => exact q I1 H1 _ g1 (.bl false)
theorem e_orV {a b : Bool} (h1 : E K Γ ta (.bl a)) (h2 : a = false → E K Γ tb (.bl b)) : E K Γ (tOrV ta tb) (.bl (a || b)) := fun I σ H as e l Q q => h1 I σ H as e l _ fun I1 H1 v g1 r1 => by
  cases r1
  refine ⟨a, rfl, ?_⟩
  cases a with
  | true => exact q I1 H1 _ g1 (.bl true)
  | false => exact h2 rfl I1 σ H1 as g1.ih (l.mono g1) Q fun I2 H2 w g2 r2 => q I2 H2 w (g1.trans g2) r2
theorem e_notV {a : Bool} (h1 : E K Γ ta (.bl a)) : E K Γ (tNotV ta) (.bl (!a)) := fun I σ H as e l Q q => h1 I σ H as e l _ fun I1 H1 v g1 r1 => by
  cases r1
  exact ⟨a, rfl, q I1 H1 _ g1 (.bl _)⟩
theorem e_is (h : E K Γ te x) (e : x = y) : E K Γ te y := e ▸ h
theorem t_is {t : TT} {a b : Bool} (h : T K Γ t a) (e : a = b) : T K Γ t b := e ▸ h
end

/-! ### statements -/
structure Cz where
  K : PySem.W.Frag
  I : Hp
  H : Hp
  m : List (Nat × Addr)
  W : WX
/-- where a body stands: I, H now; c.I, c.H at its entry -/
structure At (c : Cz) (I : Hp) (σ : St) (H : Hp) (as : Nat → Addr) (Γ : Sl) : Prop where
  gr : Gr (c.m.map (·.2)) c.I c.H I H
  lo : Lo c.K I σ H as Γ
  ok : ∀ i d, Γ[i]? = some (some (.mu d)) → c.H (as i) = none ∨ (i, as i) ∈ c.m
  fix : ∀ p ∈ c.m, as p.1 = p.2
structure Ks where
  nx : Sl → Prop
  rt : D → Sl → Prop
  bk : Sl → Prop := fun _ => False
  ct : Sl → Prop := fun _ => False
  /-- what may be raised: the slots, the class, the fields' names and data -/
  ex : Sl → Addr → List Str → List D → Prop := fun _ _ _ _ => False
/-- an exception's dict: new, of these fields -/
structure XdAt (K : PySem.W.Frag) (I H H0 : Hp) (dx : Addr) (ns : List Str) (ds : List D) : Prop where
  at_ : ∃ vs, H dx = some (.xd (ns.zip vs)) ∧ ns.length = vs.length ∧ Rps K I vs ds
  ni : I dx = none
  n0 : H0 dx = none
structure EndsOk (c : Cz) (lb : Hp) (κ : Ks) (De : Ends) : Prop where
  nx : ∀ I σ H as Γ, κ.nx Γ → Ex lb I → At c I σ H as Γ → De.nx σ H
  rt : ∀ I H Γ v d, κ.rt d Γ → Ex lb I → Gr (c.m.map (·.2)) c.I c.H I H → Rp c.K I v d → (∀ p ∈ c.m, ∀ e, Γ[p.1]? = some (some (.mu e)) → ∃ o, H p.2 = some o ∧ MRp c.K I o e) → De.rt v H
  bk : ∀ I σ H as Γ, κ.bk Γ → Ex lb I → At c I σ H as Γ → De.bk σ H
  ct : ∀ I σ H as Γ, κ.ct Γ → Ex lb I → At c I σ H as Γ → De.ct σ H
  ex : ∀ I σ H as Γ C ns ds dx, κ.ex Γ C ns ds → Ex lb I → At c I σ H as Γ → XdAt c.K I H c.H dx ns ds → c.W (.ref C) (some dx) σ H
def B (c : Cz) (Γ : Sl) (ts : TS) (κ : Ks) : Prop := ∀ (lb I : Hp) (σ : St) (H : Hp) (as : Nat → Addr) (De : Ends), Ex lb I → At c I σ H as Γ → EndsOk c lb κ De → ts De σ H
/-- Γ' says less than Γ -/
inductive Le : Sl → Sl → Prop
  | nil : Le [] []
  | none {a : Option SV} {r s : Sl} : Le r s → Le (none :: r) (a :: s)
  | same {a : Option SV} {r s : Sl} : Le r s → Le (a :: r) (a :: s)
theorem Le.refl : ∀ Γ : Sl, Le Γ Γ
  | [] => .nil
  | _ :: r => .same (Le.refl r)
theorem Le.get : ∀ {Γ' Γ : Sl}, Le Γ' Γ → ∀ {i : Nat} {s : SV}, Γ'[i]? = some (some s) → Γ[i]? = some (some s)
  | _, _, .nil, _, _, h => h
  | _, _, .none _, 0, _, h => by simp at h
  | _, _, .none l, i + 1, _, h => by simpa using Le.get l (by simpa using h)
  | _, _, .same _, 0, _, h => h
  | _, _, .same l, i + 1, _, h => by simpa using Le.get l (by simpa using h)
theorem Le.length : ∀ {Γ' Γ : Sl}, Le Γ' Γ → Γ'.length = Γ.length
  | _, _, .nil => rfl
  | _, _, .none l => congrArg (· + 1) l.length
  | _, _, .same l => congrArg (· + 1) l.length
theorem set_get {Γ : Sl} {i j : Nat} {a : Option SV} {s : SV} (h : (Γ.set i a)[j]? = some (some s)) : (j = i ∧ a = some s) ∨ (j ≠ i ∧ Γ[j]? = some (some s)) := by
  by_cases e : j = i
  · subst e
    rw [List.getElem?_set_self'] at h
    left
    cases g : Γ[j]? with
    | none => rw [g] at h; simp at h
    | some b => rw [g] at h; simp at h; exact ⟨rfl, h⟩
  · rw [List.getElem?_set_ne (Ne.symm e)] at h
    exact .inr ⟨e, h⟩
section
variable {K : PySem.W.Frag} {I I' H H' : Hp} {σ : St} {as : Nat → Addr} {Γ Γ' : Sl}
theorem Lo.weak (l : Le Γ' Γ) (h : Lo K I σ H as Γ) : Lo K I σ H as Γ' := ⟨fun i s e => h.at_ i s (l.get e), fun i j d e a b => h.ne i j d e (l.get a) (l.get b), h.len.trans l.length.symm⟩
theorem Lo.lt (h : Lo K I σ H as Γ) {i : Nat} {s : Option SV} {σ' : St} (e : (Γ.set i (some a))[i]? = some s) : i < σ.length := by
  have := (List.getElem?_eq_some_iff.mp e).1
  rw [List.length_set] at this
  rw [h.len]; exact this
theorem Lo.set (h : Lo K I σ H as Γ) {i : Nat} {v : V} {d : D} (r : Rp K I v d) : Lo K I (σ.set i (some v)) H as (Γ.set i (some (.im d))) := by
  refine ⟨fun j s e => ?_, fun j k d e a b => ?_, by simp [h.len]⟩
  · have hj := (List.getElem?_eq_some_iff.mp e).1
    rw [List.length_set, ← h.len] at hj
    rcases set_get e with ⟨rfl, e'⟩ | ⟨ne, e'⟩
    · cases e'
      exact ⟨v, by rw [List.getElem?_set_self hj], r⟩
    · have q := h.at_ j s e'
      cases s with
      | im d => obtain ⟨w, e1, r1⟩ := q; exact ⟨w, by rw [List.getElem?_set_ne (Ne.symm ne)]; exact e1, r1⟩
      | mu d => obtain ⟨e1, r1⟩ := q; exact ⟨by rw [List.getElem?_set_ne (Ne.symm ne)]; exact e1, r1⟩
  · rcases set_get a with ⟨_, e'⟩ | ⟨_, a'⟩
    · cases e'
    · rcases set_get b with ⟨_, e'⟩ | ⟨_, b'⟩
      · cases e'
      · exact h.ne j k d e a' b'
def updA (as : Nat → Addr) (i : Nat) (p : Addr) : Nat → Addr := fun j => if j = i then p else as j
theorem updA_same {as : Nat → Addr} {i : Nat} {p : Addr} : updA as i p i = p := if_pos rfl
theorem updA_ne {as : Nat → Addr} {i j : Nat} {p : Addr} (h : j ≠ i) : updA as i p j = as j := if_neg h
/-- slot i holds a new object -/
theorem Lo.setNew (h : Lo K I σ H as Γ) {i : Nat} {p : Addr} {o : HO} {d : D} (e : Ex I H) (hp : H p = none) (r : MRp K I o d) : Lo K I (σ.set i (some (.ref p))) (upd H p o) (updA as i p) (Γ.set i (some (.mu d))) := by
  have hb : ∀ j e, Γ[j]? = some (some (.mu e)) → as j ≠ p := fun j e q z => by
    obtain ⟨_, _, o, ho, _⟩ := h.at_ j _ q
    rw [z, hp] at ho; cases ho
  refine ⟨fun j s e1 => ?_, fun j k d1 e1 a b ne => ?_, by simp [h.len]⟩
  · have hj := (List.getElem?_eq_some_iff.mp e1).1
    rw [List.length_set, ← h.len] at hj
    rcases set_get e1 with ⟨rfl, e'⟩ | ⟨ne, e'⟩
    · cases e'
      exact ⟨by rw [List.getElem?_set_self hj, updA_same], by rw [updA_same]; exact e.free hp, o, by rw [updA_same]; exact upd_same, r⟩
    · have q := h.at_ j s e'
      cases s with
      | im d => obtain ⟨w, e1, r1⟩ := q; exact ⟨w, by rw [List.getElem?_set_ne (Ne.symm ne)]; exact e1, r1⟩
      | mu d =>
        obtain ⟨e1, n1, o1, r1, r2⟩ := q
        exact ⟨by rw [List.getElem?_set_ne (Ne.symm ne), updA_ne ne]; exact e1, by rw [updA_ne ne]; exact n1, o1, by rw [updA_ne ne, upd_ne (hb j d e')]; exact r1, r2⟩
  · rcases set_get a with ⟨rfl, a'⟩ | ⟨na, a'⟩
    · rcases set_get b with ⟨rfl, b'⟩ | ⟨nb, b'⟩
      · exact absurd rfl ne
      · rw [updA_same, updA_ne nb]; exact (hb k _ b').symm
    · rcases set_get b with ⟨rfl, b'⟩ | ⟨nb, b'⟩
      · rw [updA_same, updA_ne na]; exact hb j _ a'
      · rw [updA_ne na, updA_ne nb]; exact h.ne j k _ _ a' b' ne
/-- the object of slot i changes -/
theorem Lo.put (h : Lo K I σ H as Γ) {i : Nat} {o : HO} {d0 d : D} (hi : Γ[i]? = some (some (.mu d0))) (r : MRp K I o d) : Lo K I σ (upd H (as i) o) as (Γ.set i (some (.mu d))) := by
  refine ⟨fun j s e1 => ?_, fun j k d1 e1 a b ne => ?_, by simp [h.len]⟩
  · rcases set_get e1 with ⟨rfl, e'⟩ | ⟨ne, e'⟩
    · cases e'
      obtain ⟨e1, n1, o1, r1, r2⟩ := h.at_ j _ hi
      exact ⟨e1, n1, o, upd_same, r⟩
    · have q := h.at_ j s e'
      cases s with
      | im d => exact q
      | mu d =>
        obtain ⟨e1, n1, o1, r1, r2⟩ := q
        exact ⟨e1, n1, o1, by rw [upd_ne (h.ne j i _ _ e' hi ne)]; exact r1, r2⟩
  · rcases set_get a with ⟨rfl, a'⟩ | ⟨na, a'⟩
    · rcases set_get b with ⟨rfl, b'⟩ | ⟨nb, b'⟩
      · exact absurd rfl ne
      · exact h.ne _ _ _ _ hi b' ne
    · rcases set_get b with ⟨rfl, b'⟩ | ⟨nb, b'⟩
      · exact h.ne _ _ _ _ a' hi ne
      · exact h.ne _ _ _ _ a' b' ne
theorem MRp.rp {o : HO} {d : D} {a : Addr} (r : MRp K I o d) (h : I a = some o) : Rp K I (.ref a) d := by
  cases r with
  | lst r => exact .lst h r
  | dic l r => exact .dic h l r
  | ins l r => exact .obj h l r
/-- the object of slot i changes no more -/
theorem Lo.freeze (h : Lo K I σ H as Γ) {i : Nat} {o : HO} {d : D} (hi : Γ[i]? = some (some (.mu d))) (ho : H (as i) = some o) (r : MRp K I o d) : Lo K (upd I (as i) o) σ H as (Γ.set i (some (.im d))) := by
  obtain ⟨e0, n0, _, _, _⟩ := h.at_ i _ hi
  have ei : Ex I (upd I (as i) o) := Ex.new n0
  refine ⟨fun j s e1 => ?_, fun j k d1 e1 a b ne => ?_, by simp [h.len]⟩
  · rcases set_get e1 with ⟨rfl, e'⟩ | ⟨ne, e'⟩
    · cases e'
      exact ⟨_, e0, (r.mono ei).rp upd_same⟩
    · have q := h.at_ j s e'
      cases s with
      | im d => obtain ⟨w, e1, r1⟩ := q; exact ⟨w, e1, r1.mono ei⟩
      | mu d =>
        obtain ⟨e1, n1, o1, r1, r2⟩ := q
        exact ⟨e1, by rw [upd_ne (h.ne j i _ _ e' hi ne)]; exact n1, o1, r1, r2.mono ei⟩
  · rcases set_get a with ⟨_, e'⟩ | ⟨_, a'⟩
    · cases e'
    · rcases set_get b with ⟨_, e'⟩ | ⟨_, b'⟩
      · cases e'
      · exact h.ne j k _ _ a' b' ne
theorem Gr.mut {m : List Addr} {I0 H0 : Hp} (g : Gr m I0 H0 I H) {a : Addr} {o : HO} (n : I a = none) (h : H0 a = none ∨ a ∈ m) : Gr m I0 H0 I (upd H a o) where
  i := g.i
  ih := fun x u q => by
    have z : x ≠ a := fun z => by rw [z, n] at q; cases q
    rw [upd_ne z]; exact g.ih x u q
  h := fun x u hx q => by
    have z : x ≠ a := fun z => by
      rcases h with h | h
      · rw [z, h] at q; cases q
      · exact hx (z ▸ h)
    rw [upd_ne z]; exact g.h x u hx q
  th := fun x q => by
    by_cases z : x = a
    · rw [z, upd_same]; exact nofun
    · rw [upd_ne z]; exact g.th x q
  fr := g.fr
theorem Gr.frz {m : List Addr} {I0 H0 : Hp} (g : Gr m I0 H0 I H) {a : Addr} {o : HO} (n : I a = none) (h : H0 a = none) (ho : H a = some o) : Gr m I0 H0 (upd I a o) H where
  i := g.i.trans (Ex.new n)
  ih := fun x u q => by
    by_cases z : x = a
    · rw [z, upd_same] at q; rw [z, ho]; exact q
    · rw [upd_ne z] at q; exact g.ih x u q
  h := g.h
  th := g.th
  fr := fun x q => by
    have z : x ≠ a := fun z => q (z ▸ h)
    rw [upd_ne z]; exact g.fr x q
end
theorem At.mono {c : Cz} {I I' H H' : Hp} {σ : St} {as : Nat → Addr} {Γ : Sl} (a : At c I σ H as Γ) (g : Gr [] I H I' H') : At c I' σ H' as Γ := ⟨a.gr.trans g.weak, a.lo.mono g, a.ok, a.fix⟩
theorem At.weak {c : Cz} {I H : Hp} {σ : St} {as : Nat → Addr} {Γ Γ' : Sl} (l : Le Γ' Γ) (a : At c I σ H as Γ) : At c I σ H as Γ' := ⟨a.gr, a.lo.weak l, fun i d h => a.ok i d (l.get h), a.fix⟩
theorem At.set {c : Cz} {I H : Hp} {σ : St} {as : Nat → Addr} {Γ : Sl} (a : At c I σ H as Γ) {i : Nat} {v : V} {d : D} (r : Rp c.K I v d) : At c I (σ.set i (some v)) H as (Γ.set i (some (.im d))) :=
  ⟨a.gr, a.lo.set r, fun j e h => by
    rcases set_get h with ⟨_, e'⟩ | ⟨_, h'⟩
    · cases e'
    · exact a.ok j e h', a.fix⟩
section
variable {c : Cz} {Γ Γ' : Sl} {κ : Ks} {te : TE} {t u ts : TS} {d : D} {ds : List D}
theorem b_next (h : κ.nx Γ) : B c Γ tNext κ := fun lb I σ H as De e a k => k.nx I σ H as Γ h e a
theorem b_brk (h : κ.bk Γ) : B c Γ tBreak κ := fun lb I σ H as De e a k => k.bk I σ H as Γ h e a
theorem b_cont (h : κ.ct Γ) : B c Γ tCont κ := fun lb I σ H as De e a k => k.ct I σ H as Γ h e a
theorem b_seq (h : B c Γ t { κ with nx := fun Γ' => B c Γ' u κ }) : B c Γ (tSeq t u) κ := fun lb I σ H as De e a k =>
  h lb I σ H as { De with nx := u De } e a ⟨fun I' σ' H' as' Γ' q e' a' => q lb I' σ' H' as' De e' a' k, k.rt, k.bk, k.ct, k.ex⟩
theorem b_weak (l : Le Γ' Γ) (h : B c Γ' ts κ) : B c Γ ts κ := fun lb I σ H as De e a k => h lb I σ H as De e (a.weak l) k
theorem b_ks {κ' : Ks} (h : B c Γ ts κ') (h1 : ∀ Γ, κ'.nx Γ → κ.nx Γ) (h2 : ∀ d Γ, κ'.rt d Γ → κ.rt d Γ) (h3 : ∀ Γ, κ'.bk Γ → κ.bk Γ) (h4 : ∀ Γ, κ'.ct Γ → κ.ct Γ) (h5 : ∀ Γ C ns ds, κ'.ex Γ C ns ds → κ.ex Γ C ns ds := by exact fun _ _ _ _ h => h) : B c Γ ts κ := fun lb I σ H as De e a k =>
  h lb I σ H as De e a ⟨fun I σ H as Γ q => k.nx I σ H as Γ (h1 Γ q), fun I H Γ v d q => k.rt I H Γ v d (h2 d Γ q), fun I σ H as Γ q => k.bk I σ H as Γ (h3 Γ q), fun I σ H as Γ q => k.ct I σ H as Γ (h4 Γ q), fun I σ H as Γ C ns ds dx q => k.ex I σ H as Γ C ns ds dx (h5 Γ C ns ds q)⟩
theorem b_set {i : Nat} (h : E c.K Γ te d) (k : κ.nx (Γ.set i (some (.im d)))) : B c Γ (tAsg te (gName i)) κ := fun lb I σ H as De e a q =>
  h I σ H as a.gr.ih a.lo _ fun I1 H1 v g r => q.nx _ _ _ _ _ k (e.trans g.i) ((a.mono g).set r)
theorem b_drop (h : E c.K Γ te d) (k : κ.nx Γ) : B c Γ (tDrop te) κ := fun lb I σ H as De e a q =>
  h I σ H as a.gr.ih a.lo _ fun I1 H1 v g r => q.nx _ _ _ _ _ k (e.trans g.i) (a.mono g)
theorem b_ret (h : E c.K Γ te d) (k : κ.rt d Γ) : B c Γ (tRet te) κ := fun lb I σ H as De e a q =>
  h I σ H as a.gr.ih a.lo _ fun I1 H1 v g r => q.rt _ _ _ _ _ k (e.trans g.i) (a.mono g).gr r fun p hp e1 he => by
    obtain ⟨_, _, o, ho, r1⟩ := (a.mono g).lo.at_ _ _ he
    rw [a.fix p hp] at ho
    exact ⟨o, ho, r1⟩
theorem b_retN (k : κ.rt .non Γ) : B c Γ tRetN κ := fun lb I σ H as De e a q =>
  q.rt _ _ _ _ _ k e a.gr .non fun p hp e1 he => by
    obtain ⟨_, _, o, ho, r1⟩ := a.lo.at_ _ _ he
    rw [a.fix p hp] at ho
    exact ⟨o, ho, r1⟩
theorem b_if {tc : TT} {b : Bool} (h : T c.K Γ tc b) (h1 : b = true → B c Γ t κ) (h2 : b = false → B c Γ u κ) : B c Γ (tIfS tc t u) κ := fun lb I σ H as De e a q =>
  h I σ H as a.gr.ih a.lo _ fun I1 H1 g => by
    cases b with
    | true => exact h1 rfl lb I1 σ H1 as De (e.trans g.i) (a.mono g) q
    | false => exact h2 rfl lb I1 σ H1 as De (e.trans g.i) (a.mono g) q
/-- a new list of the def's own -/
theorem b_new {i : Nat} {ta : TA} (h : EA c.K Γ ta ds) (hl : ds.length ≤ sizeLine) (hm : ∀ p ∈ c.m, p.1 ≠ i) (k : κ.nx (Γ.set i (some (.mu (.lst ds))))) : B c Γ (tAsg (tLst ta) (gName i)) κ := fun lb I σ H as De e a q =>
  h I σ H as a.gr.ih a.lo _ fun I1 H1 vs g r => by
    refine ⟨by rw [r.length]; exact hl, fun p hp => ?_⟩
    have a1 := a.mono g
    refine q.nx I1 _ _ (updA as i p) _ k (e.trans g.i) ⟨a1.gr.trans (Gr.junk a1.gr.ih hp), a1.lo.setNew a1.gr.ih hp (.lst r), fun j e1 h1 => ?_, fun p' hp' => by rw [updA_ne (hm p' hp')]; exact a1.fix p' hp'⟩
    rcases set_get h1 with ⟨rfl, _⟩ | ⟨ne, h'⟩
    · rw [updA_same]
      left
      cases z : c.H p with
      | none => rfl
      | some o => exact absurd hp (a1.gr.th p (by rw [z]; exact nofun))
    · rw [updA_ne ne]; exact a1.ok j e1 h'
theorem At.put {c : Cz} {I H : Hp} {σ : St} {as : Nat → Addr} {Γ : Sl} (a : At c I σ H as Γ) {i : Nat} {o : HO} {d0 d : D} (hi : Γ[i]? = some (some (.mu d0))) (r : MRp c.K I o d) : At c I σ (upd H (as i) o) as (Γ.set i (some (.mu d))) := by
  have n0 := (a.lo.at_ i _ hi).2.1
  refine ⟨a.gr.mut n0 ((a.ok i _ hi).imp_right fun z => List.mem_map_of_mem (f := fun p : Nat × Addr => p.2) z), a.lo.put hi r, fun j e h => ?_, a.fix⟩
  rcases set_get h with ⟨rfl, _⟩ | ⟨_, h'⟩
  · exact a.ok j _ hi
  · exact a.ok j e h'
/-- x.append(e) -/
theorem b_append {i : Nat} (hi : Γ[i]? = some (some (.mu (.lst ds)))) (h : E c.K Γ te d) (hl : ds.length < sizeLine) (k : κ.nx (Γ.set i (some (.mu (.lst (ds ++ [d])))))) : B c Γ (tDrop (tBM c.K "list" rAppend (tVar i) (tCons te tNil))) κ := fun lb I σ H as De e a q => by
  obtain ⟨hv, hn, o, ho, r⟩ := a.lo.at_ i _ hi
  cases r with
  | lst r =>
    refine ⟨_, hv, .inl ⟨rfl, _, SqL.of ho⟩, ?_⟩
    refine h I σ H as a.gr.ih a.lo _ fun I1 H1 v g r1 => ?_
    have ho1 := g.ex _ _ ho
    refine ⟨_, _, _, rfl, rfl, ho1, by rw [r.length]; exact hl, ?_⟩
    exact q.nx I1 _ _ as _ k (e.trans g.i) ((a.mono g).put hi (.lst ((r.mono g.i).append (.one r1))))
/-- the object of slot i changes no more -/
theorem At.freeze {c : Cz} {I H : Hp} {σ : St} {as : Nat → Addr} {Γ : Sl} (a : At c I σ H as Γ) {i : Nat} {d : D} (hi : Γ[i]? = some (some (.mu d))) (hm : ∀ p ∈ c.m, p.1 ≠ i) : ∃ I', Ex I I' ∧ At c I' σ H as (Γ.set i (some (.im d))) := by
  obtain ⟨hv, hn, o, ho, r⟩ := a.lo.at_ i _ hi
  have h0 : c.H (as i) = none := (a.ok i _ hi).resolve_right fun z => hm _ z rfl
  refine ⟨upd I (as i) o, Ex.new hn, a.gr.frz hn h0 ho, a.lo.freeze hi ho r, fun j e h => ?_, a.fix⟩
  rcases set_get h with ⟨_, e'⟩ | ⟨_, h'⟩
  · cases e'
  · exact a.ok j e h'
theorem b_freeze (i : Nat) (hi : Γ[i]? = some (some (.mu d))) (hm : ∀ p ∈ c.m, p.1 ≠ i) (h : B c (Γ.set i (some (.im d))) ts κ) : B c Γ ts κ := fun lb I σ H as De e a q => by
  obtain ⟨I', e', a'⟩ := a.freeze hi hm
  exact h lb I' σ H as De (e.trans e') a' q
end
end G

namespace G
open PySem PySem.Spec L2

/-! ### what is walked -/
def IsW (K : PySem.W.Frag) (I : Hp) (J : It) (xs : List D) : Prop := ∃ (Gc : Hp → Prop) (Y : Nat → Hp → V → Hp → Prop), Walk J xs.length Gc Y ∧ (∀ I1 H1, Ex I I1 → Ex I1 H1 → Gc H1) ∧
  ∀ i H x H' I1, i < xs.length → Y i H x H' → Ex I I1 → Ex I1 H → ∃ I2 d, Gr [] I1 H I2 H' ∧ xs[i]? = some d ∧ Rp K I2 x d
def Src (K : PySem.W.Frag) (Γ : Sl) (wi : TI) (xs : List D) : Prop := ∀ (I : Hp) (σ : St) (H : Hp) (as : Nat → Addr), Ex I H → Lo K I σ H as Γ → ∀ R : It → Hp → Prop, (∀ I' H' J, Gr [] I H I' H' → IsW K I' J xs → R J H') → wi σ H R
section
variable {K : PySem.W.Frag} {Γ Γ' : Sl} {te : TE} {ds : List D}
theorem isw_at {I : Hp} {J : It} {vs : List V} {ds : List D} {Gc : Hp → Prop} (w : Walk J vs.length Gc (YAt vs)) (hg : ∀ I1 H1, Ex I I1 → Ex I1 H1 → Gc H1) (r : Rps K I vs ds) : IsW K I J ds :=
  ⟨Gc, YAt vs, by rw [← r.length]; exact w, hg, fun i H x H' I1 _ y e e1 => by
    obtain ⟨rfl, hx⟩ := y
    obtain ⟨d, hd, rx⟩ := r.getV hx
    exact ⟨I1, d, Gr.refl e1, hd, rx.mono e⟩⟩
theorem src_list {d : D} (h : E K Γ te d) (hl : LD d ds) : Src K Γ (iList K te) ds := fun I σ H as e l R q => h I σ H as e l _ fun I1 H1 v g r => by
  obtain ⟨a, vs, rfl, hs, hr⟩ := r.l hl
  exact ⟨_, rfl, ⟨_, ex_l g.ih hs⟩, q I1 H1 _ g (isw_at walk_list (fun I2 H2 e1 e2 => ex_l (e1.trans e2) hs) hr)⟩
theorem src_tup (h : E K Γ te (.tup ds)) : Src K Γ (iTup K te) ds := fun I σ H as e l R q => h I σ H as e l _ fun I1 H1 v g r => by
  cases r with
  | tup hs hr => exact ⟨_, rfl, ⟨_, ex_t g.ih hs⟩, q I1 H1 _ g (isw_at walk_tup (fun I2 H2 e1 e2 => ex_t (e1.trans e2) hs) hr)⟩
/-- the signs of a text -/
def signs (z : Str) : List D := z.cps.toList.map fun c => .str ⟨#[c]⟩
theorem src_str {z : Str} (h : E K Γ te (.str z)) : Src K Γ (iStr te) (signs z) := fun I σ H as e l R q => h I σ H as e l _ fun I1 H1 v g r => by
  cases r
  refine ⟨z, rfl, q I1 H1 _ g ⟨fun _ => True, _, by rw [signs, List.length_map, Array.length_toList]; exact walk_str, fun _ _ _ _ => trivial, ?_⟩⟩
  rintro i H x H' I2 hi ⟨rfl, c, hc, rfl⟩ e1 e2
  refine ⟨I2, .str ⟨#[c]⟩, Gr.refl e2, ?_, .str _⟩
  rw [signs, List.getElem?_map, Array.getElem?_toList, hc]
  rfl
theorem isw_rng {I : Hp} {lo : Int} {n : Nat} : IsW K I (Itr lo n) ((List.range n).map fun (i : Nat) => D.int (lo + (i : Int))) := by
  refine ⟨fun _ => True, _, by rw [List.length_map, List.length_range]; exact walk_range, fun _ _ _ _ => trivial, ?_⟩
  rintro i H x H' I2 hi ⟨rfl, rfl⟩ e1 e2
  rw [List.length_map, List.length_range] at hi
  refine ⟨I2, .int (lo + i), Gr.refl e2, ?_, .int _⟩
  rw [List.getElem?_map, List.getElem?_range hi]
  rfl
theorem src_rng1 {ta : TA} {n : Int} (h : EA K Γ ta [.int n]) (h0 : -(2 ^ 62) ≤ n) (h1 : n < 2 ^ 62) : Src K Γ (iRng1 ta) ((List.range n.toNat).map fun (i : Nat) => D.int (i : Int)) := fun I σ H as e l R q => h I σ H as e l _ fun I1 H1 v g r => by
  cases r with
  | cons a b =>
    cases a; cases b
    refine ⟨n, rfl, h0, h1, q I1 H1 _ g ?_⟩
    have := isw_rng (K := K) (I := I1) (lo := 0) (n := n.toNat)
    simpa using this
theorem src_rng2 {ta : TA} {m n : Int} (h : EA K Γ ta [.int m, .int n]) (h0 : -(2 ^ 62) ≤ m ∧ m < 2 ^ 62 ∧ -(2 ^ 62) ≤ n ∧ n < 2 ^ 62) : Src K Γ (iRng2 ta) ((List.range (n - m).toNat).map fun (i : Nat) => D.int (m + (i : Int))) := fun I σ H as e l R q => h I σ H as e l _ fun I1 H1 v g r => by
  cases r with
  | cons a b =>
    cases a
    cases b with
    | cons a b =>
      cases a; cases b
      exact ⟨m, n, rfl, h0, q I1 H1 _ g isw_rng⟩
theorem isw_pair {I : Hp} {J : It} {n : Nat} {xf yf : Nat → Option V} {xs : List D} {Gc : Hp → Prop} (w : Walk J n Gc (YPair xf yf)) (hn : xs.length = n) (hg : ∀ I1 H1, Ex I I1 → Ex I1 H1 → Gc H1)
    (hx : ∀ i x y, i < n → xf i = some x → yf i = some y → ∃ d e, xs[i]? = some (.tup [d, e]) ∧ Rp K I x d ∧ Rp K I y e) : IsW K I J xs := by
  refine ⟨Gc, YPair xf yf, by rw [hn]; exact w, hg, ?_⟩
  rintro i H v H' I1 hi ⟨T, x, y, rfl, hT, rfl, h1, h2⟩ e1 e2
  obtain ⟨d, e, hd, rx, ry⟩ := hx i x y (hn ▸ hi) h1 h2
  have en := Ex.new (o := .tup [x, y]) (e2.free hT)
  exact ⟨_, _, Gr.new e2 hT, hd, .tup (.inl (.inl upd_same)) (.cons (rx.mono (e1.trans en)) (.cons (ry.mono (e1.trans en)) .nil))⟩
def enumD (ds : List D) : List D := ds.mapIdx fun i d => .tup [.int i, d]
theorem src_enum {ta : TA} {d : D} (h : EA K Γ ta [d]) (hl : LD d ds) : Src K Γ (iEnum K ta) (enumD ds) := fun I σ H as e l R q => h I σ H as e l _ fun I1 H1 v g r => by
  cases r with
  | cons a b =>
    cases b
    obtain ⟨a, vs, rfl, hs, hr⟩ := a.l hl
    · refine ⟨_, _, rfl, ex_l g.ih hs, q I1 H1 _ g (isw_pair walk_enum ?_ (fun I2 H2 e1 e2 => ex_l (e1.trans e2) hs) ?_)⟩
      · rw [enumD, List.length_mapIdx, hr.length]
      · intro i x y hi h1 h2
        obtain ⟨d, hd, rd⟩ := hr.getV h2
        refine ⟨.int i, d, ?_, ?_, rd⟩
        · rw [enumD, List.getElem?_mapIdx, hd]; rfl
        · cases h1; exact .int _
theorem src_zip {ta : TA} {d1 d2 : D} {es : List D} (h : EA K Γ ta [d1, d2]) (hl : LD d1 ds) (hl2 : LD d2 es) : Src K Γ (iZip K ta) ((ds.zip es).map fun p => .tup [p.1, p.2]) := fun I σ H as e l R q => h I σ H as e l _ fun I1 H1 v g r => by
  cases r with
  | cons a b =>
    cases b with
    | cons b c =>
      cases c
      obtain ⟨a, vs, rfl, hs, hr⟩ := a.l hl
      obtain ⟨a2, vs2, rfl, hs2, hr2⟩ := b.l hl2
      · · refine ⟨_, _, _, _, rfl, ex_l g.ih hs, ex_l g.ih hs2, q I1 H1 _ g (isw_pair (walk_zip (n := min ds.length es.length) ?_) ?_ (fun I2 H2 e1 e2 => ⟨ex_l (e1.trans e2) hs, ex_l (e1.trans e2) hs2⟩) ?_)⟩
          · rw [hr.length, hr2.length]
          · rw [List.length_map, List.length_zip]
          · intro i x y hi h1 h2
            obtain ⟨d, hd, rd⟩ := hr.getV h1
            obtain ⟨e, he, re⟩ := hr2.getV h2
            refine ⟨d, e, ?_, rd, re⟩
            rw [List.getElem?_map, List.getElem?_zip_eq_some (z := (d, e)) |>.mpr ⟨hd, he⟩]; rfl
theorem src_rev {ta : TA} {d : D} (h : EA K Γ ta [d]) (hl : LD d ds) : Src K Γ (iRev K ta) ds.reverse := fun I σ H as e l R q => h I σ H as e l _ fun I1 H1 v g r => by
  cases r with
  | cons a b =>
    cases b
    obtain ⟨a', xs, rfl, hs, hr⟩ := a.l hl
    · refine ⟨_, _, rfl, ex_l g.ih hs, q I1 H1 _ g ⟨fun H => SqL K H a' xs, _, by rw [List.length_reverse, ← hr.length]; exact walk_rev, fun I2 H2 e1 e2 => ex_l (e1.trans e2) hs, ?_⟩⟩
      rintro i H x H' I2 hi ⟨rfl, hx⟩ e1 e2
      obtain ⟨d, hd, rd⟩ := hr.getV hx
      rw [List.length_reverse] at hi
      refine ⟨I2, d, Gr.refl e2, ?_, rd.mono e1⟩
      rw [List.getElem?_reverse hi, ← hr.length]; exact hd
theorem src_or1 {w1 w2 : TI} (h : Src K Γ w1 ds) : Src K Γ (fun σ H R => w1 σ H R ∨ w2 σ H R) ds := fun I σ H as e l R q => .inl (h I σ H as e l R q)
theorem src_or2 {w1 w2 : TI} (h : Src K Γ w2 ds) : Src K Γ (fun σ H R => w1 σ H R ∨ w2 σ H R) ds := fun I σ H as e l R q => .inr (h I σ H as e l R q)

/-! ### targets -/
def MuSub (Γ' Γ : Sl) : Prop := ∀ (i : Nat) (d : D), Γ'[i]? = some (some (SV.mu d)) → Γ[i]? = some (some (SV.mu d))
structure Tgt (K : PySem.W.Frag) (g : TG) (d : D) (ws : List Nat) (Γ Γ' : Sl) : Prop where
  sub : MuSub Γ' Γ
  run : ∀ (I : Hp) (σ : St) (H : Hp) (as : Nat → Addr) (v : V), Ex I H → Lo K I σ H as Γ → Rp K I v d → ∀ Q : St → Hp → Prop, (∀ σ', Lo K I σ' H as Γ' → (∀ j, j ∉ ws → σ'[j]? = σ[j]?) → σ'.length = σ.length → Q σ' H) → g v σ H Q
structure Tgts (K : PySem.W.Frag) (g : TGs) (ds : List D) (ws : List Nat) (Γ Γ' : Sl) : Prop where
  sub : MuSub Γ' Γ
  run : ∀ (I : Hp) (σ : St) (H : Hp) (as : Nat → Addr) (vs : List V), Ex I H → Lo K I σ H as Γ → Rps K I vs ds → ∀ Q : St → Hp → Prop, (∀ σ', Lo K I σ' H as Γ' → (∀ j, j ∉ ws → σ'[j]? = σ[j]?) → σ'.length = σ.length → Q σ' H) → g vs σ H Q
theorem tgt_name {i : Nat} {d : D} : Tgt K (gName i) d [i] Γ (Γ.set i (some (.im d))) := ⟨fun j e h => by
    rcases set_get h with ⟨_, z⟩ | ⟨_, z⟩
    · cases z
    · exact z, fun I σ H as v e l r Q q => q _ (l.set r) (fun j hj => List.getElem?_set_ne (fun z => hj (by rw [z]; exact List.mem_singleton.mpr rfl))) (by simp)⟩
theorem tgs_nil : Tgts K gNil [] [] Γ Γ := ⟨fun _ _ h => h, fun I σ H as vs e l r Q q => by
    cases r
    exact ⟨rfl, q σ l (fun _ _ => rfl) rfl⟩⟩
theorem tgs_cons {g : TG} {gs : TGs} {d : D} {w1 w2 : List Nat} {Γ2 : Sl} (h : Tgt K g d w1 Γ Γ2) (hs : Tgts K gs ds w2 Γ2 Γ') : Tgts K (gCons g gs) (d :: ds) (w1 ++ w2) Γ Γ' := ⟨fun j e a => h.sub j e (hs.sub j e a), fun I σ H as vs e l r Q q => by
    cases r with
    | cons a b =>
      refine ⟨_, _, rfl, h.run I σ H as _ e l a _ fun σ1 l1 k1 n1 => hs.run I σ1 H as _ e l1 b _ fun σ2 l2 k2 n2 => q σ2 l2 (fun j hj => ?_) (n2.trans n1)⟩
      rw [List.mem_append] at hj
      exact (k2 j fun z => hj (.inr z)).trans (k1 j fun z => hj (.inl z))⟩
theorem tgt_tup {gs : TGs} {n : Nat} {ws : List Nat} (h : Tgts K gs ds ws Γ Γ') (hn : ds.length = n) : Tgt K (gTup K n gs) (.tup ds) ws Γ Γ' := ⟨h.sub, fun I σ H as v e l r Q q => by
    cases r with
    | tup hs hr => exact ⟨_, _, rfl, ex_t e hs, by rw [hr.length]; exact hn, h.run I σ H as _ e l hr Q q⟩⟩
end

/-! ### loops -/
section
variable {c : Cz} {Γ : Sl} {κ : Ks}
theorem b_for {wi : TI} {g : TG} {tb : TS} {xs : List D} (hs : Src c.K Γ wi xs) {S : Type} (R : Nat → S → Prop) (Γf : S → Sl) (s0 : S) (h0 : R 0 s0) (l0 : Le (Γf s0) Γ)
    (ht : ∀ i s d, xs[i]? = some d → R i s → ∃ ws Γ1, Tgt c.K g d ws (Γf s) Γ1 ∧ B c Γ1 tb ⟨fun Γ' => ∃ s', R (i + 1) s' ∧ Le (Γf s') Γ', κ.rt, κ.nx, fun Γ' => ∃ s', R (i + 1) s' ∧ Le (Γf s') Γ', κ.ex⟩)
    (hd : ∀ s, R xs.length s → κ.nx (Γf s)) : B c Γ (tFor wi g tb) κ := fun lb I σ H as De e a k =>
  hs I σ H as a.gr.ih a.lo _ fun I1 H1 J g1 hw => by
    obtain ⟨Gc, Y, w, hg, hy⟩ := hw
    refine for_it (g := g) (tb := tb) (D := De) w (fun i σ H => ∃ I as s, R i s ∧ Ex I1 I ∧ At c I σ H as (Γf s)) ⟨I1, as, s0, h0, Ex.refl _, (a.mono g1).weak l0⟩ (fun i σ H _ ⟨I, as, s, _, e1, a1⟩ => hg I H e1 a1.gr.ih) ?_ ?_
    · rintro i x σ H H' hi ⟨I, as, s, r, e1, a1⟩ y
      obtain ⟨I2, d, g2, hd2, rx⟩ := hy i H x H' I hi y e1 a1.gr.ih
      obtain ⟨ws, Γ1, tg, hb⟩ := ht i s d hd2 r
      have a2 := a1.mono g2
      refine tg.run I2 σ H' as x g2.ih a2.lo rx _ fun σ' lo' _ _ => ?_
      have e3 : Ex I1 I2 := e1.trans g2.i
      have e0 : Ex lb I1 := e.trans g1.i
      exact hb I1 I2 σ' H' as _ e3 ⟨a2.gr, lo', fun j d h => a2.ok j d (tg.sub j d h), a2.fix⟩ ⟨fun I3 σ3 H3 as3 Γ3 ⟨s', r', le⟩ e4 a4 => ⟨I3, as3, s', r', e4, a4.weak le⟩,
        fun I3 H3 Γ3 v d hr e4 => k.rt I3 H3 Γ3 v d hr (e0.trans e4), fun I3 σ3 H3 as3 Γ3 hb e4 a4 => k.nx I3 σ3 H3 as3 Γ3 hb (e0.trans e4) a4, fun I3 σ3 H3 as3 Γ3 ⟨s', r', le⟩ e4 a4 => ⟨I3, as3, s', r', e4, a4.weak le⟩, fun I3 σ3 H3 as3 Γ3 C ns ds dx hx e4 => k.ex I3 σ3 H3 as3 Γ3 C ns ds dx hx (e0.trans e4)⟩
    · rintro σ H ⟨I, as, s, r, e1, a1⟩
      exact k.nx I σ H as _ (hd s r) ((e.trans g1.i).trans e1) a1
theorem b_while {tc : TT} {tb : TS} {S : Type} (R : S → Prop) (b : S → Bool) (mes : S → Nat) (Γf : S → Sl) (s0 : S) (h0 : R s0) (l0 : Le (Γf s0) Γ) (hc : ∀ s, R s → T c.K (Γf s) tc (b s))
    (ht : ∀ s, R s → b s = true → B c (Γf s) tb ⟨fun Γ' => ∃ s', R s' ∧ mes s' < mes s ∧ Le (Γf s') Γ', κ.rt, κ.nx, fun Γ' => ∃ s', R s' ∧ mes s' < mes s ∧ Le (Γf s') Γ', κ.ex⟩)
    (hd : ∀ s, R s → b s = false → κ.nx (Γf s)) : B c Γ (tWhile tc tb) κ := fun lb I σ H as De e a k => by
  refine ⟨fun m σ H => ∃ I as s, R s ∧ m = mes s ∧ Ex lb I ∧ At c I σ H as (Γf s), ⟨mes s0, I, as, s0, h0, rfl, e, a.weak l0⟩, ?_⟩
  rintro m σ H ⟨I, as, s, r, rfl, e1, a1⟩
  refine hc s r I σ H as a1.gr.ih a1.lo _ fun I1 H1 g1 => ?_
  have a2 := a1.mono g1
  have e2 := e1.trans g1.i
  cases hb : b s with
  | true =>
    rw [if_pos rfl]
    refine ⟨fun σ' H' => ∃ I as s', R s' ∧ mes s' < mes s ∧ Ex lb I ∧ At c I σ' H' as (Γf s'), fun σ' H' ⟨I, as, s', r', lt, e', a'⟩ => ⟨_, lt, I, as, s', r', rfl, e', a'⟩, ?_⟩
    exact ht s r hb lb I1 σ H1 as _ e2 a2 ⟨fun I3 σ3 H3 as3 Γ3 ⟨s', r', lt, le⟩ e4 a4 => ⟨I3, as3, s', r', lt, e4, a4.weak le⟩, k.rt, fun I3 σ3 H3 as3 Γ3 hb e4 a4 => k.nx I3 σ3 H3 as3 Γ3 hb e4 a4, fun I3 σ3 H3 as3 Γ3 ⟨s', r', lt, le⟩ e4 a4 => ⟨I3, as3, s', r', lt, e4, a4.weak le⟩, k.ex⟩
  | false =>
    rw [if_neg Bool.false_ne_true]
    exact k.nx I1 σ H1 as _ (hd s r hb) e2 a2
end

/-! ### comprehensions -/
def wipeG (Γ : Sl) : List Nat → Sl
  | [] => Γ
  | v :: vs => (wipeG Γ vs).set v none
section
variable {K : PySem.W.Frag} {Γ : Sl}
theorem wipeG_len {vs : List Nat} : (wipeG Γ vs).length = Γ.length := by
  induction vs with
  | nil => rfl
  | cons v vs ih => unfold wipeG; rw [List.length_set, ih]
theorem wipeG_get {vs : List Nat} {i : Nat} {s : SV} (h : (wipeG Γ vs)[i]? = some (some s)) : Γ[i]? = some (some s) ∧ i ∉ vs := by
  induction vs with
  | nil => exact ⟨h, by simp⟩
  | cons v vs ih =>
    unfold wipeG at h
    rcases set_get h with ⟨_, z⟩ | ⟨ne, z⟩
    · cases z
    · obtain ⟨a, b⟩ := ih z
      exact ⟨a, by simp [ne, b]⟩
theorem wipe_get {σ : St} {vs : List Nat} {i : Nat} (h : i ∉ vs) : (wipe σ vs)[i]? = σ[i]? := by
  induction vs with
  | nil => rfl
  | cons v vs ih =>
    unfold wipe
    rw [List.getElem?_set_ne (fun z => h (by rw [z]; exact List.mem_cons_self)), ih fun z => h (List.mem_cons_of_mem _ z)]
theorem Lo.wipe {I H : Hp} {σ : St} {as : Nat → Addr} (l : Lo K I σ H as Γ) (vs : List Nat) : Lo K I (wipe σ vs) H as (wipeG Γ vs) := by
  refine ⟨fun i s h => ?_, fun i j d e a b => l.ne i j d e (wipeG_get a).1 (wipeG_get b).1, by rw [wipe_length, wipeG_len, l.len]⟩
  obtain ⟨h1, h2⟩ := wipeG_get h
  have q := l.at_ i s h1
  cases s with
  | im d => obtain ⟨v, e, r⟩ := q; exact ⟨v, by rw [wipe_get h2]; exact e, r⟩
  | mu d => obtain ⟨e, r⟩ := q; exact ⟨by rw [wipe_get h2]; exact e, r⟩
theorem wipe_eq {σ σ' : St} {vs ws : List Nat} (h : ∀ j, j ∉ ws → σ'[j]? = (wipe σ vs)[j]?) (hl : σ'.length = (wipe σ vs).length) (hw : ∀ j ∈ ws, j ∈ vs) : wipe σ' vs = wipe σ vs := by
  have key : ∀ (vs : List Nat) (σ1 σ2 : St), σ1.length = σ2.length → (∀ j, j ∉ vs → σ1[j]? = σ2[j]?) → wipe σ1 vs = wipe σ2 vs := by
    intro vs
    induction vs with
    | nil => intro σ1 σ2 _ h; exact List.ext_getElem? fun j => h j (by simp)
    | cons v vs ih =>
      intro σ1 σ2 hl h
      have e : (wipe σ1 vs).set v none = (wipe σ2 vs).set v none := by
        refine List.ext_getElem? fun j => ?_
        by_cases z : j = v
        · subst z
          rw [List.getElem?_set, List.getElem?_set, if_pos rfl, if_pos rfl, wipe_length, wipe_length, hl]
        · rw [List.getElem?_set_ne (Ne.symm z), List.getElem?_set_ne (Ne.symm z)]
          by_cases zz : j ∈ vs
          · have none_at : ∀ (vs : List Nat) (σ : St), j ∈ vs → (wipe σ vs)[j]? = if j < σ.length then some none else none := by
              intro vs
              induction vs with
              | nil => intro σ h; simp at h
              | cons u us ihh =>
                intro σ hm
                unfold wipe
                by_cases q : j = u
                · subst q; rw [List.getElem?_set, if_pos rfl, wipe_length]; 
                · rw [List.getElem?_set_ne (Ne.symm q)]
                  exact ihh σ ((List.mem_cons.mp hm).resolve_left q)
            rw [none_at vs σ1 zz, none_at vs σ2 zz, hl]
          · rw [wipe_get zz, wipe_get zz]
            exact h j (by simp [z, zz])
      exact e
  have e1 : wipe σ' vs = wipe (wipe σ vs) vs := key vs _ _ hl fun j hj => h j fun z => hj (hw j z)
  have e2 : wipe (wipe σ vs) vs = wipe σ vs := key vs _ _ (wipe_length σ vs) fun j hj => wipe_get hj
  exact e1.trans e2
theorem e_lc {α : Type} {xs : List α} {em : α → D} {p : α → Bool} {f : α → D} {wi : TI} {g : TG} {tt : TT} {te : TE} {vs : List Nat} (hs : Src K Γ wi (xs.map em)) (hl : xs.length ≤ 10000000)
    (ht : ∀ (i : Nat) (x : α), xs[i]? = some x → ∃ ws Γ1, Tgt K g (em x) ws (wipeG Γ vs) Γ1 ∧ (∀ j ∈ ws, j ∈ vs) ∧ T K Γ1 tt (p x) ∧ (p x = true → E K Γ1 te (f x))) : E K Γ (tLc wi g tt te vs) (.lst ((xs.filter p).map f)) := fun I σ H as e l Q q =>
  hs I σ H as e l _ fun I1 H1 J g1 hw => fun Dd hD => by
    obtain ⟨Gc, Y, w, hg, hy⟩ := hw
    rw [List.length_map] at w hy
    have fresh1 : I1 Dd = none := g1.ih.free hD
    refine lc_it (Qd := fun H => Q (.ref Dd) H) w (fun i H => ∃ I' acc, Gr [] I1 H1 I' H ∧ I' Dd = none ∧ H Dd = some (.lst acc) ∧ Rps K I' acc (((xs.take i).filter p).map f) ∧ Lo K I' σ H as Γ)
      ⟨I1, [], Gr.junk g1.ih hD, fresh1, upd_same, by simp; exact .nil, (l.mono g1).mono (Gr.junk g1.ih hD)⟩ (fun i H _ ⟨I', acc, g2, _⟩ => hg I' H g2.i g2.ih) ?_ ?_
    · rintro i v H2 H3 hi ⟨I2, acc, g2, n2, a2, r2, l2⟩ y
      obtain ⟨I3, d, g3, hd, rx⟩ := hy i H2 v H3 I2 hi y g2.i g2.ih
      rw [List.getElem?_map] at hd
      obtain ⟨x, hx⟩ : ∃ x, xs[i]? = some x := by
        cases hx : xs[i]? with
        | none => rw [hx] at hd; cases hd
        | some x => exact ⟨x, rfl⟩
      rw [hx] at hd
      cases hd
      obtain ⟨ws, Γ1, tg, hws, t1, t2⟩ := ht i x hx
      have nn : H2 Dd ≠ none := by rw [a2]; exact nofun
      refine tg.run I3 (wipe σ vs) H3 as v g3.ih ((l2.mono g3).wipe vs) rx _ fun σ' l' k' n' => ⟨wipe_eq k' n' hws, ?_⟩
      refine t1 I3 σ' H3 as g3.ih l' _ fun I4 H4 g4 => ?_
      have g34 := g3.trans g4
      have htake : xs.take (i + 1) = xs.take i ++ [x] := by rw [List.take_add_one, hx]; rfl
      have hlen : ((xs.take (i + 1)).filter p).length ≤ xs.length := Nat.le_trans (List.length_filter_le _ _) (by rw [List.length_take]; omega)
      cases hp : p x with
      | true =>
        rw [if_pos rfl]
        refine t2 hp I4 σ' H4 as g4.ih (l'.mono g4) _ fun I5 H5 z g5 r5 => ?_
        have g345 := g34.trans g5
        refine ⟨acc, g345.ex _ _ a2, ?_, I5, _, (g2.trans g345).mut (g345.none_i n2 nn) (.inl hD), g345.none_i n2 nn, upd_same, ?_, ?_⟩
        · have := r2.length
          rw [this, List.length_map]
          have h3 : ((xs.take i).filter p).length ≤ xs.length := Nat.le_trans (List.length_filter_le _ _) (by rw [List.length_take]; omega)
          rw [sizeLine_eq]; omega
        · rw [htake, List.filter_append, List.map_append]
          refine (r2.mono g345.i).append ?_
          simp [hp]
          exact .one r5
        · refine ⟨fun j s hj => ?_, l2.ne, l2.len⟩
          have q1 := (l2.mono g345).at_ j s hj
          cases s with
          | im d => exact q1
          | mu d =>
            obtain ⟨e1, n1, o1, r1, r3⟩ := q1
            refine ⟨e1, n1, o1, ?_, r3⟩
            have : as j ≠ Dd := fun z => by
              obtain ⟨_, _, o, ho, _⟩ := l.at_ j _ hj
              rw [z] at ho
              rw [g1.ex _ _ ho] at hD
              cases hD
            rw [upd_ne this]; exact r1
      | false =>
        rw [if_neg Bool.false_ne_true]
        refine ⟨I4, acc, g2.trans g34, g34.none_i n2 nn, g34.ex _ _ a2, ?_, l2.mono g34⟩
        rw [htake, List.filter_append, List.map_append]
        simp [hp]
        exact r2.mono g34.i
    · rintro H2 ⟨I2, acc, g2, n2, a2, r2, _⟩
      rw [List.take_of_length_le (Nat.le_refl _)] at r2
      have g12 := g1.trans g2
      have hH : H Dd = none := g1.ex.free hD
      refine q _ _ _ (g12.frz n2 hH a2) (.lst upd_same (r2.mono (Ex.new n2)))
end

/-! ### defs -/
/-- the promise of a def that raises nothing and changes nothing: R arguments result -/
def spR (K : PySem.W.Frag) (R : List D → D → Prop) : Sp := fun vs H Q _ => ∃ (I : Hp) (ds : List D) (d : D), Ex I H ∧ Rps K I vs ds ∧ R ds d ∧ ∀ I' H' v, Gr [] I H I' H' → Rp K I' v d → Q v H'
section
variable {K : PySem.W.Frag} {Γ : Sl}
theorem e_call {R : List D → D → Prop} {dvs : List V} {dds : List D} {EE : XK} {ta : TA} {ds : List D} {d : D} (ha : EA K Γ ta ds) (hd : ∀ I, Rps K I dvs dds) (hr : R (ds ++ dds) d) : E K Γ (tCall (spR K R) dvs EE ta) d := fun I σ H as e l Q q =>
  ha I σ H as e l _ fun I1 H1 vs g1 r1 => ⟨I1, _, d, g1.ih, r1.append (hd _), hr, fun I2 H2 v g2 r2 => q I2 H2 v (g1.trans g2) r2⟩
theorem e_call0 {R : List D → D → Prop} {EE : XK} {ta : TA} {ds : List D} {d : D} (ha : EA K Γ ta ds) (hr : R ds d) : E K Γ (tCall (spR K R) [] EE ta) d := e_call (dds := []) ha (fun _ => .nil) (by rw [List.append_nil]; exact hr)
/-- the slots at a def's entry -/
def slots (N : List Str) (ds : List D) : Sl := ds.map (fun d => some (.im d)) ++ List.replicate (N.length - ds.length) none
theorem lo_start {I H : Hp} {N : List Str} {vs : List V} {ds : List D} (r : Rps K I vs ds) : Lo K I (L2.start N vs) H (fun _ => 0) (slots N ds) := by
  have nomu : ∀ (i : Nat) (d : D), (slots N ds)[i]? ≠ some (some (SV.mu d)) := fun i d h => by
    unfold slots at h
    rw [List.getElem?_append] at h
    split at h
    · rw [List.getElem?_map] at h
      cases q : ds[i]? with
      | none => rw [q] at h; cases h
      | some x => rw [q] at h; cases h
    · have := List.getElem?_eq_some_iff.mp h
      obtain ⟨a, b⟩ := this
      rw [List.getElem_replicate] at b
      cases b
  refine ⟨fun i s h => ?_, fun i j d e a _ => absurd a (nomu i d), ?_⟩
  · cases s with
    | mu d => exact absurd h (nomu i d)
    | im d =>
      unfold slots at h
      rw [List.getElem?_append] at h
      split at h
      · rename_i hlt
        rw [List.getElem?_map] at h
        cases q : ds[i]? with
        | none => rw [q] at h; cases h
        | some x =>
          rw [q] at h
          cases h
          obtain ⟨v, hv, rv⟩ := r.get q
          refine ⟨v, ?_, rv⟩
          unfold L2.start
          rw [List.getElem?_append_left (by rw [List.length_map]; exact (List.getElem?_eq_some_iff.mp hv).1), List.getElem?_map, hv]
          rfl
      · have := List.getElem?_eq_some_iff.mp h
        obtain ⟨a, b⟩ := this
        rw [List.getElem_replicate] at b
        cases b
  · unfold L2.start slots
    simp [r.length]
/-- THE RULE for such a def -/
theorem ok_of {P : Program} {w : World} {mg : Str → Option Value} {base : Heap} {x qual : Str} {st : Stmt} {f : Addr} {fd : FuncData} {N ps : List Str} {k : Nat} {R : List D → D → Prop} (F : Fun K x qual st f fd) (S : FnScope N ps (defScope st)) (hn : ∀ ds d, R ds d → ds.length = ps.length)
    (hb : ∀ (cdv : Value) (A : Around) (outer : List Env) (s : Shared) (H : Hp) (E : XK), Room k (A.deeper (PyProof.Rows.envOfC qual (defScope st) s.heap.objs.size f cdv)) →
      ∃ t, PSs (cxOf CX0 P w K mg base N qual (defScope st) f cdv A outer s H E).nox (defBody st) t ∧ ∀ (I H' : Hp) ds d, R ds d → B ⟨K, I, H', [], fun _ _ _ _ => False⟩ (slots N ds) t { nx := fun _ => d = .non, rt := fun e _ => e = d }) :
    FnOk P w K mg base CX0 (k + 1) f fd ps (spR K R) := by
  refine F.ok S (fun vs H Q E h => ?_) (fun cdv A outer s H vs Q E hr h => ?_)
  · obtain ⟨I, ds, d, _, r, hR, _⟩ := h
    rw [r.length]; exact hn ds d hR
  · obtain ⟨I, ds, d, e, r, hR, q⟩ := h
    obtain ⟨t, ht, hB⟩ := hb cdv A outer s H E hr
    refine ⟨t, ht, hB I H ds d hR I I _ H (fun _ => 0) _ (Ex.refl _) ⟨Gr.refl e, lo_start r, fun i d h => ?_, fun p hp => nomatch hp⟩ ⟨fun I1 σ1 H1 as Γ1 h1 _ a1 => ?_, fun I1 H1 Γ1 v e1 h1 _ g1 r1 _ => ?_, fun _ _ _ _ _ h => h.elim, fun _ _ _ _ _ h => h.elim, fun _ _ _ _ _ _ _ _ _ h => h.elim⟩⟩
    · obtain ⟨_, _, o, _, _⟩ := (lo_start (N := N) (H := H) r).at_ i _ h
      exfalso
      unfold slots at h
      rw [List.getElem?_append] at h
      split at h
      · rw [List.getElem?_map] at h
        cases q : ds[i]? with
        | none => rw [q] at h; cases h
        | some x => rw [q] at h; cases h
      · obtain ⟨a, b⟩ := List.getElem?_eq_some_iff.mp h
        rw [List.getElem_replicate] at b
        cases b
    · have hd : d = .non := h1
      subst hd
      exact q I1 H1 .non a1.gr .non
    · have hd : e1 = d := h1
      subst hd
      exact q I1 H1 v g1 r1
end
end G

namespace G
open PySem PySem.Spec L2 PySem.SeqAt
open AutoSeq1 (wpAny_loadPart')
theorem dict_eq_declines_int (l : Addr) (o : Obj) (hc : o.cls = .type "dict") (b : Int) (u : Tok) :
    Meets (Builtin.«dict.__eq__» ⟨[.ref l, .int b u], []⟩) (fun _ R s => s.heap.get? l = some o ∧ R (.ok (.ret .notImplemented)) s) :=
  .of_wp fun prog w A R s h => by
    obtain ⟨hp, g, d, tk, os⟩ := s; obtain ⟨hl, h⟩ := h; have f1 := F.sub_int_dict
    obtain ⟨cls, dd, data, sl⟩ := o
    simp only at hc
    subst hc
    unfold Builtin.«dict.__eq__»
    wp_walk using wpAny_loadPart' hl, wpAny_load hl
    exact ⟨_, rfl, h⟩
theorem int_eq_declines_dict (b : Int) (u : Tok) (l : Addr) (o : Obj) (hc : o.cls = .type "dict") {es} {ep} (hd : o.data = .dict es ep) :
    Meets (Builtin.«int.__eq__» ⟨[.int b u, .ref l], []⟩) (fun _ R s => s.heap.get? l = some o ∧ R (.ok (.ret .notImplemented)) s) :=
  .of_wp fun prog w A R s h => by
    obtain ⟨hp, g, d, tk, os⟩ := s; obtain ⟨hl, h⟩ := h; have f1 := F.sub_dict_int
    obtain ⟨cls, dd, data, sl⟩ := o
    simp only at hc hd
    subst hc hd
    wp_walk using wpAny_loadPart' hl, wpAny_load hl
    exact ⟨_, rfl, h⟩
theorem rc_dict_int {A : Around} {s : Shared} {l : Addr} {o : Obj} {es} {ep} (b : Int) (u : Tok) (ho : s.heap.get? l = some o) (hc : o.cls = .type "dict") (hd : o.data = .dict es ep) (hu : A.units < cLine) : RcAt A s (.ref l) (.int b u) false := fun prog w E Q h => by
  obtain ⟨cls, dd, data, sl⟩ := o
  simp only at hc hd
  subst hc hd
  exact rc_eq_decline_or (k := false) ⟨_, ho, rfl⟩ (typeIs_int s b u) (by decide) F.sub_int_dict F.slot_dict_eq F.slot_int_eq_refl
    (fun _ hq => call_meets F.slot_dict_eq ⟨_, ho, rfl⟩ F.entry_dict_eq (F.args_dict_eq_2 _ _) (dict_eq_declines_int l _ rfl b u) ⟨ho, hq⟩)
    (fun _ hq => call_meets F.slot_int_eq_refl (typeIs_int s b u) F.entry_int_eq (F.args_int_eq_2 _ _) (int_eq_declines_dict b u l _ rfl rfl) ⟨ho, hq⟩)
    (fun _ hq => wpAny_of_eq (rfl : isSame (.ref l) (.int b u) = pure false) hq) (.inr hu) h
def rEqDi : R2 := fun x y H Q => ∃ a kvs j, x = .ref a ∧ H a = some (.dK kvs) ∧ y = .int j ∧ Q (.bl false) H
theorem op_eqDi {X : Cx} (hu : X.A.units + 64 < cLine) : OpR X (compareOp .Eq) rEqDi := by
  intro pins s σ H x y v u Q I rx ry h
  obtain ⟨a, kvs, j, rfl, e, rfl, q⟩ := h
  obtain rfl : v = Value.ref a := rx
  obtain ⟨t, rfl⟩ := (show ∃ t, u = Value.int j t from ry)
  obtain ⟨_, _, vs, _, o, es, ep, h1, h2, h3, _⟩ := (show ObjOk X.prog X.w H s.heap a (.dK kvs) from I.hok a _ e)
  exact (rc_dict_int j t h1 h2.1 h3 (by omega)) X.prog X.w _ _ ⟨.bl false, H, I, rfl, q⟩
end G

namespace G
open PySem L2

/-! ### rules that serve several kinds of values -/
section
variable {X : Cx}
theorem op_or {f : Value → Value → Sem Value} {r1 r2 : R2} (h1 : OpR X f r1) (h2 : OpR X f r2) : OpR X f (fun x y H Q => r1 x y H Q ∨ r2 x y H Q) := fun pins s σ H x y v u Q I rx ry h =>
  h.elim (fun h => h1 pins s σ H x y v u Q I rx ry h) (fun h => h2 pins s σ H x y v u Q I rx ry h)
theorem ca_or {f : Value} {r1 r2 : List V → Hp → VK → Prop} (h1 : CallR X f r1) (h2 : CallR X f r2) : CallR X f (fun x H Q => r1 x H Q ∨ r2 x H Q) := fun pins s σ H x u Q I rx h =>
  h.elim (fun h => h1 pins s σ H x u Q I rx h) (fun h => h2 pins s σ H x u Q I rx h)
theorem pi_or {tg it : Expr} {w1 w2 : TI} (h1 : PI X tg it w1) (h2 : PI X tg it w2) : PI X tg it (fun σ H R => w1 σ H R ∨ w2 σ H R) := ⟨fun pins s σ H R I h =>
  h.elim (fun h => h1.run pins s σ H R I h) (fun h => h2.run pins s σ H R I h)⟩
def rCatStr : R2 := fun x y H Q => ∃ i j, x = .str i ∧ y = .str j ∧ i.length + j.length ≤ sizeLine ∧ Q (.str (i ++ j)) H
def uAdd (K : PySem.W.Frag) : R2 := fun x y H Q => rI0 (fun i j => .int (i + j)) x y H Q ∨ (fun x y H Q => rCatStr x y H Q ∨ (fun x y H Q => rCat x y H Q ∨ rCatA K x y H Q) x y H Q) x y H Q
theorem op_uAdd : OpR X (binaryOp .Add) (uAdd X.K) := op_or op_add (op_or op_add_str (op_or op_cat op_catA))
def uMul : R2 := fun x y H Q => rI CMulW (fun i j => .int (i * j)) x y H Q ∨ rRep x y H Q
theorem op_uMul : OpR X (binaryOp .Mult) uMul := op_or op_mulW op_rep
def uEq (K : PySem.W.Frag) : R2 := fun x y H Q => rEq x y H Q ∨ (fun x y H Q => rEqD K x y H Q ∨ rEqDi x y H Q) x y H Q
def uNe (K : PySem.W.Frag) : R2 := fun x y H Q => rNe x y H Q ∨ rNeD K x y H Q
theorem op_uEq (hu : X.A.units + 64 < cLine) : OpR X (compareOp .Eq) (uEq X.K) := op_or op_eq (op_or (op_eqD hu) (op_eqDi hu))
theorem op_uNe (hu : X.A.units + 64 < cLine) : OpR X (compareOp .NotEq) (uNe X.K) := op_or op_ne (op_neD hu)
def rInSg : R2 := fun x y H Q => ∃ (c : Nat) (z : Str), x = .str ⟨#[c]⟩ ∧ y = .str z ∧ Q (.bl (decide (c ∈ z.cps.toList))) H
def rNiSg : R2 := fun x y H Q => ∃ (c : Nat) (z : Str), x = .str ⟨#[c]⟩ ∧ y = .str z ∧ Q (.bl (!decide (c ∈ z.cps.toList))) H
def uIn (K : PySem.W.Frag) : R2 := fun x y H Q => rInSg x y H Q ∨ rIn K false x y H Q
def uNi (K : PySem.W.Frag) : R2 := fun x y H Q => rNiSg x y H Q ∨ rIn K true x y H Q
theorem op_uIn : OpR X (compareOp .In) (uIn X.K) := op_or op_in_sign op_in_seq
theorem op_uNi : OpR X (compareOp .NotIn) (uNi X.K) := op_or op_notIn_sign op_notIn_seq
def uSl (K : PySem.W.Frag) : V → Option Int → Option Int → Hp → VK → Prop := fun x lo hi H Q => rSlL K x lo hi H Q ∨ (fun x lo hi H Q => rSlA K x lo hi H Q ∨ rSlS x lo hi H Q) x lo hi H Q
theorem sl_u : SlR X (uSl X.K) := sl_list.or (sl_tupA.or sl_str)
def rLn (K : PySem.W.Frag) : List V → Hp → VK → Prop := fun xs H Q => ∃ x n, xs = [x] ∧ LenV K x H n ∧ Q (.int n) H
def rLnD : List V → Hp → VK → Prop := fun xs H Q => ∃ a kvs, xs = [V.ref a] ∧ H a = some (.dK kvs) ∧ Q (.int kvs.length) H
def uLen (K : PySem.W.Frag) : List V → Hp → VK → Prop := fun x H Q => rLn K x H Q ∨ rLnD x H Q
theorem cr_uLen : CallR X (.builtin "len") (uLen X.K) := ca_or call_len call_lenD
/-- what is walked: a list, a tuple, a text -/
theorem pi_u {tg e : Expr} {te : TE} (he : PE X e te) : PI X tg e (fun σ H R => iList X.K te σ H R ∨ (fun σ H R => iTup X.K te σ H R ∨ iStr te σ H R) σ H R) := pi_or (pi_list he) (pi_or (pi_tup he) (pi_str he))
end

/-! ### what they give -/
section
variable {K : PySem.W.Frag} {Γ : Sl}
theorem bin_add_int {i j : Int} : Bin K (uAdd K) (.int i) (.int j) (.int (i + j)) := fun I H u v e r1 r2 Q q => by
  cases r1; cases r2
  exact .inl ⟨i, j, rfl, rfl, q I H _ (Gr.refl e) (.int _)⟩
theorem bin_add_str {x y : Str} (hl : x.length + y.length ≤ sizeLine) : Bin K (uAdd K) (.str x) (.str y) (.str (x ++ y)) := fun I H u v e r1 r2 Q q => by
  cases r1; cases r2
  exact .inr (.inl ⟨x, y, rfl, rfl, hl, q I H _ (Gr.refl e) (.str _)⟩)
theorem bin_add_lst {xs ys : List D} (hl : xs.length + ys.length ≤ sizeLine) : Bin K (uAdd K) (.lst xs) (.lst ys) (.lst (xs ++ ys)) := fun I H u v e r1 r2 Q q => by
  cases r1 with
  | lst a b =>
    cases r2 with
    | lst a2 b2 =>
      refine .inr (.inr (.inl ⟨_, _, _, _, rfl, rfl, e _ _ a, e _ _ a2, by rw [b.length, b2.length]; exact hl, fun p hp => ?_⟩))
      exact q _ _ _ (Gr.new e hp) (.lst upd_same ((b.append b2).mono (Ex.new (e.free hp))))
theorem Rps.nil_iff {I : Hp} {vs : List V} {ds : List D} (r : Rps K I vs ds) : vs = [] ↔ ds = [] := by cases r <;> simp
theorem bin_add_tup {xs ys : List D} (hl : xs.length + ys.length ≤ sizeLine) : Bin K (uAdd K) (.tup xs) (.tup ys) (.tup (xs ++ ys)) := fun I H u v e r1 r2 Q q => by
  cases r1 with
  | tup a b =>
    cases r2 with
    | tup a2 b2 =>
      refine .inr (.inr (.inr ⟨_, _, _, _, rfl, rfl, ex_t e a, ex_t e a2, by rw [b.length, b2.length]; exact hl, fun h => ?_, fun _ h => ?_, fun _ _ p hp => ?_⟩))
      · have := b.nil_iff.mp h; subst this
        exact q I H _ (Gr.refl e) (.tup a2 b2)
      · have := b2.nil_iff.mp h; subst this
        rw [List.append_nil] at q
        exact q I H _ (Gr.refl e) (.tup a b)
      · exact q _ _ _ (Gr.new e hp) (.tup (.inl (.inl upd_same)) ((b.append b2).mono (Ex.new (e.free hp))))
theorem bin_sub {i j : Int} : Bin K (rI0 fun i j => .int (i - j)) (.int i) (.int j) (.int (i - j)) := fun I H u v e r1 r2 Q q => by
  cases r1; cases r2
  exact ⟨i, j, rfl, rfl, q I H _ (Gr.refl e) (.int _)⟩
theorem bin_I0 {g : Int → Int → Int} {i j : Int} : Bin K (rI0 fun i j => .int (g i j)) (.int i) (.int j) (.int (g i j)) := fun I H u v e r1 r2 Q q => by
  cases r1; cases r2
  exact ⟨i, j, rfl, rfl, q I H _ (Gr.refl e) (.int _)⟩
theorem bin_I {P : Int → Int → Prop} {g : Int → Int → Int} {i j : Int} (h : P i j) : Bin K (rI P fun i j => .int (g i j)) (.int i) (.int j) (.int (g i j)) := fun I H u v e r1 r2 Q q => by
  cases r1; cases r2
  exact ⟨i, j, rfl, rfl, h, q I H _ (Gr.refl e) (.int _)⟩
theorem bin_mul {i j : Int} (h : i.natAbs.log2 + j.natAbs.log2 < 1000000) : Bin K uMul (.int i) (.int j) (.int (i * j)) := fun I H u v e r1 r2 Q q => by
  cases r1; cases r2
  exact .inl ⟨i, j, rfl, rfl, h, q I H _ (Gr.refl e) (.int _)⟩
theorem bin_rep {xs : List D} {n : Int} (h0 : -(2 ^ 63) ≤ n) (h1 : n < 2 ^ 63) (hl : xs.length * n.toNat ≤ sizeLine) : Bin K uMul (.lst xs) (.int n) (.lst (List.replicate n.toNat xs).flatten) := fun I H u v e r1 r2 Q q => by
  cases r1 with
  | lst a b =>
    cases r2
    refine .inr ⟨_, _, _, rfl, rfl, e _ _ a, h0, h1, by rw [b.length]; exact hl, fun p hp => ?_⟩
    refine q _ _ _ (Gr.new e hp) (.lst upd_same ?_)
    have key : ∀ m : Nat, Rps K I (List.replicate m _).flatten (List.replicate m xs).flatten := fun m => by
      induction m with
      | zero => exact .nil
      | succ m ih => rw [List.replicate_succ, List.replicate_succ, List.flatten_cons, List.flatten_cons]; exact b.append ih
    exact (key n.toNat).mono (Ex.new (e.free hp))
/-! comparisons -/
theorem bin_cmpI {p : Int → Int → Bool} {i j : Int} : Bin K (rI0 fun i j => .bl (p i j)) (.int i) (.int j) (.bl (p i j)) := fun I H u v e r1 r2 Q q => by
  cases r1; cases r2
  exact ⟨i, j, rfl, rfl, q I H _ (Gr.refl e) (.bl _)⟩
theorem bin_eq_int {i j : Int} : Bin K (uEq K) (.int i) (.int j) (.bl (decide (i = j))) := fun I H u v e r1 r2 Q q => by
  cases r1; cases r2
  refine .inl ⟨rfl, ?_⟩
  have : decide (V.int i = V.int j) = decide (i = j) := by simp
  rw [this]; exact q I H _ (Gr.refl e) (.bl _)
theorem bin_eq_str {i j : Str} : Bin K (uEq K) (.str i) (.str j) (.bl (decide (i = j))) := fun I H u v e r1 r2 Q q => by
  cases r1; cases r2
  refine .inl ⟨rfl, ?_⟩
  have : decide (V.str i = V.str j) = decide (i = j) := by simp
  rw [this]; exact q I H _ (Gr.refl e) (.bl _)
theorem bin_eq_bl {i j : Bool} : Bin K (uEq K) (.bl i) (.bl j) (.bl (decide (i = j))) := fun I H u v e r1 r2 Q q => by
  cases r1; cases r2
  refine .inl ⟨rfl, ?_⟩
  have : decide (V.bl i = V.bl j) = decide (i = j) := by simp
  rw [this]; exact q I H _ (Gr.refl e) (.bl _)
theorem bin_ne_int {i j : Int} : Bin K (uNe K) (.int i) (.int j) (.bl (!decide (i = j))) := fun I H u v e r1 r2 Q q => by
  cases r1; cases r2
  refine .inl ⟨rfl, ?_⟩
  have : decide (V.int i = V.int j) = decide (i = j) := by simp
  rw [this]; exact q I H _ (Gr.refl e) (.bl _)
theorem bin_ne_str {i j : Str} : Bin K (uNe K) (.str i) (.str j) (.bl (!decide (i = j))) := fun I H u v e r1 r2 Q q => by
  cases r1; cases r2
  refine .inl ⟨rfl, ?_⟩
  have : decide (V.str i = V.str j) = decide (i = j) := by simp
  rw [this]; exact q I H _ (Gr.refl e) (.bl _)
theorem bin_ne_bl {i j : Bool} : Bin K (uNe K) (.bl i) (.bl j) (.bl (!decide (i = j))) := fun I H u v e r1 r2 Q q => by
  cases r1; cases r2
  refine .inl ⟨rfl, ?_⟩
  have : decide (V.bl i = V.bl j) = decide (i = j) := by simp
  rw [this]; exact q I H _ (Gr.refl e) (.bl _)
/-! data for == at any depth -/
mutual
def toP : D → PyData
  | .non => .none
  | .bl b => .bool b
  | .int i => .int i
  | .str s => .str s
  | .lst ds => .list (toPs ds)
  | .fl ds => .list (toPs ds)
  | .tup ds => .tuple (toPs ds)
  | _ => .none
def toPs : List D → List PyData
  | [] => []
  | d :: ds => toP d :: toPs ds
end
mutual
/-- data that == may be asked of -/
def isP : D → Bool
  | .non => true
  | .bl _ => true
  | .int _ => true
  | .str _ => true
  | .lst ds => isPs ds
  | .fl ds => isPs ds
  | .tup ds => isPs ds
  | _ => false
def isPs : List D → Bool
  | [] => true
  | d :: ds => isP d && isPs ds
end
mutual
theorem dp_of {I : Hp} : ∀ {v : V} {d : D}, Rp K I v d → isP d = true → Dp K I v (toP d)
  | _, _, .non, _ => by rw [toP]; exact .non
  | _, _, .bl b, _ => by rw [toP]; exact .bl b
  | _, _, .int i, _ => by rw [toP]; exact .int i
  | _, _, .str x, _ => by rw [toP]; exact .str x
  | _, _, .lst h r, p => by rw [toP]; exact .lst (.inl (.inl h)) (dps_of r (by simpa [isP] using p))
  | _, _, .fl h r, p => by rw [toP]; exact .lst h (dps_of r (by simpa [isP] using p))
  | _, _, .tup h r, p => by rw [toP]; exact .tup h (dps_of r (by simpa [isP] using p))
  | _, _, .dic _ _ _, p => by simp [isP] at p
  | _, _, .obj _ _ _, p => by simp [isP] at p
  | _, _, .ty _, p => by simp [isP] at p
  | _, _, .ref _, p => by simp [isP] at p
theorem dps_of {I : Hp} : ∀ {vs : List V} {ds : List D}, Rps K I vs ds → isPs ds = true → DpAll K I vs (toPs ds)
  | _, _, .nil, _ => by rw [toPs]; exact .nil
  | _, _, .cons h r, p => by
    rw [isPs, Bool.and_eq_true] at p
    rw [toPs]; exact .cons (dp_of h p.1) (dps_of r p.2)
end
theorem Dp.mono' {I H : Hp} (e : Ex I H) : ∀ {p : PyData} {v : V}, Dp K I v p → Dp K H v p
  | _, _, .non => .non
  | _, _, .bl b => .bl b
  | _, _, .int b => .int b
  | _, _, .str b => .str b
  | _, _, .lst h r => .lst (ex_l e h) (DpAll.mono'' e r)
  | _, _, .tup h r => .tup (ex_t e h) (DpAll.mono'' e r)
where
  DpAll.mono'' {I H : Hp} (e : Ex I H) : ∀ {p : List PyData} {v : List V}, DpAll K I v p → DpAll K H v p
  | _, _, .nil => .nil
  | _, _, .cons h r => .cons (Dp.mono' e h) (DpAll.mono'' e r)

theorem bin_eqD {x y : D} (hx : isP x = true) (hy : isP y = true) (sx : SeqAt.shaped (toP x) = true) (sy : SeqAt.shaped (toP y) = true) : Bin K (uEq K) x y (.bl (PyData.eqv (toP x) (toP y))) := fun I H u v e r1 r2 Q q =>
  .inr (.inl ⟨_, _, Dp.mono' e (dp_of r1 hx), Dp.mono' e (dp_of r2 hy), sx, sy, q I H _ (Gr.refl e) (.bl _)⟩)
theorem bin_eq_di {ks : List Key} {ds : List D} {j : Int} : Bin K (uEq K) (.dic ks ds) (.int j) (.bl false) := fun I H u v e r1 r2 Q q => by
  cases r1 with
  | dic a _ _ =>
    cases r2
    exact .inr (.inr ⟨_, _, j, rfl, e _ _ a, rfl, q I H _ (Gr.refl e) (.bl _)⟩)
theorem bin_neD {x y : D} (hx : isP x = true) (hy : isP y = true) (sx : SeqAt.shaped (toP x) = true) (sy : SeqAt.shaped (toP y) = true) : Bin K (uNe K) x y (.bl (!PyData.eqv (toP x) (toP y))) := fun I H u v e r1 r2 Q q =>
  .inr ⟨_, _, Dp.mono' e (dp_of r1 hx), Dp.mono' e (dp_of r2 hy), sx, sy, q I H _ (Gr.refl e) (.bl _)⟩
/-! in -/
theorem bin_in_sg {c : Nat} {z : Str} : Bin K (uIn K) (.str ⟨#[c]⟩) (.str z) (.bl (decide (c ∈ z.cps.toList))) := fun I H u v e r1 r2 Q q => by
  cases r1; cases r2
  exact .inl ⟨c, z, rfl, rfl, q I H _ (Gr.refl e) (.bl _)⟩
theorem bin_ni_sg {c : Nat} {z : Str} : Bin K (uNi K) (.str ⟨#[c]⟩) (.str z) (.bl (!decide (c ∈ z.cps.toList))) := fun I H u v e r1 r2 Q q => by
  cases r1; cases r2
  exact .inl ⟨c, z, rfl, rfl, q I H _ (Gr.refl e) (.bl _)⟩
def flatD : D → Bool
  | .non => true
  | .bl _ => true
  | .int _ => true
  | .str _ => true
  | _ => false
def toV : D → V
  | .bl b => .bl b
  | .int i => .int i
  | .str s => .str s
  | _ => .non
theorem rp_toV {I : Hp} {v : V} {d : D} (r : Rp K I v d) (f : flatD d = true) : v = toV d ∧ flatV v = true := by
  cases r <;> first | exact ⟨rfl, rfl⟩ | cases f
theorem rps_toV {I : Hp} : ∀ {vs : List V} {ds : List D}, Rps K I vs ds → ds.all flatD = true → vs = ds.map toV ∧ vs.all flatV = true
  | _, _, .nil, _ => ⟨rfl, rfl⟩
  | _, _, .cons h r, f => by
    rw [List.all_cons, Bool.and_eq_true] at f
    obtain ⟨a, b⟩ := rp_toV h f.1
    obtain ⟨c, d⟩ := rps_toV r f.2
    exact ⟨by rw [a, c]; rfl, by rw [List.all_cons, b, d]; rfl⟩
/-- x in xs of flat data -/
def inD (x : D) (xs : List D) : Bool := xs.any fun y => eqV (toV y) (toV x)
theorem inV_eq {x : D} {xs : List D} : inV (toV x) (xs.map toV) = inD x xs := by unfold inV inD; rw [List.any_map]; rfl
theorem bin_in_l {x y : D} {ds : List D} (hl : LD y ds) (hx : flatD x = true) (hf : ds.all flatD = true) : Bin K (uIn K) x y (.bl (inD x ds)) := fun I H u v e r1 r2 Q q => by
  obtain ⟨a, vs, rfl, hs, hr⟩ := r2.l hl
  obtain ⟨rfl, b1⟩ := rp_toV r1 hx
  obtain ⟨rfl, b2⟩ := rps_toV hr hf
  refine .inr ⟨a, _, rfl, .inl (ex_l e hs), b1, b2, ?_⟩
  rw [if_neg Bool.false_ne_true, inV_eq]
  exact q I H _ (Gr.refl e) (.bl _)
theorem bin_ni_l {x y : D} {ds : List D} (hl : LD y ds) (hx : flatD x = true) (hf : ds.all flatD = true) : Bin K (uNi K) x y (.bl (!inD x ds)) := fun I H u v e r1 r2 Q q => by
  obtain ⟨a, vs, rfl, hs, hr⟩ := r2.l hl
  obtain ⟨rfl, b1⟩ := rp_toV r1 hx
  obtain ⟨rfl, b2⟩ := rps_toV hr hf
  refine .inr ⟨a, _, rfl, .inl (ex_l e hs), b1, b2, ?_⟩
  rw [if_pos rfl, inV_eq]
  exact q I H _ (Gr.refl e) (.bl _)
theorem bin_in_t {x : D} {ds : List D} (hx : flatD x = true) (hf : ds.all flatD = true) : Bin K (uIn K) x (.tup ds) (.bl (inD x ds)) := fun I H u v e r1 r2 Q q => by
  cases r2 with
  | tup hs hr =>
    obtain ⟨rfl, b1⟩ := rp_toV r1 hx
    obtain ⟨rfl, b2⟩ := rps_toV hr hf
    refine .inr ⟨_, _, rfl, .inr (ex_t e hs), b1, b2, ?_⟩
    rw [if_neg Bool.false_ne_true, inV_eq]
    exact q I H _ (Gr.refl e) (.bl _)
theorem bin_ni_t {x : D} {ds : List D} (hx : flatD x = true) (hf : ds.all flatD = true) : Bin K (uNi K) x (.tup ds) (.bl (!inD x ds)) := fun I H u v e r1 r2 Q q => by
  cases r2 with
  | tup hs hr =>
    obtain ⟨rfl, b1⟩ := rp_toV r1 hx
    obtain ⟨rfl, b2⟩ := rps_toV hr hf
    refine .inr ⟨_, _, rfl, .inr (ex_t e hs), b1, b2, ?_⟩
    rw [if_pos rfl, inV_eq]
    exact q I H _ (Gr.refl e) (.bl _)
/-! items -/
theorem rps_at {I : Hp} {vs : List V} {ds : List D} {i : Int} {d : D} (r : Rps K I vs ds) (h : atI ds i = some d) : ∃ v, atI vs i = some v ∧ Rp K I v d := by
  unfold atI at h ⊢
  rw [r.length]
  cases hx : ixN ds.length i with
  | none => rw [hx] at h; cases h
  | some j =>
    rw [hx] at h
    exact r.get (i := j) h
theorem bin_ix_l {x d : D} {ds : List D} {i : Int} (hl : LD x ds) (h : atI ds i = some d) : Bin K (rIx K) x (.int i) d := fun I H u v e r1 r2 Q q => by
  obtain ⟨a, vs, rfl, hs, hr⟩ := r1.l hl
  cases r2
  obtain ⟨w, hw, rw'⟩ := rps_at hr h
  exact .inl ⟨a, vs, i, w, rfl, rfl, ex_l e hs, hw, q I H _ (Gr.refl e) rw'⟩
theorem bin_ix_t {d : D} {ds : List D} {i : Int} (h : atI ds i = some d) : Bin K (rIx K) (.tup ds) (.int i) d := fun I H u v e r1 r2 Q q => by
  cases r1 with
  | tup hs hr =>
    cases r2
    obtain ⟨w, hw, rw'⟩ := rps_at hr h
    exact .inr (.inl ⟨_, _, i, w, rfl, rfl, ex_t e hs, hw, q I H _ (Gr.refl e) rw'⟩)
theorem bin_ix_s {z : Str} {c : Nat} {i : Int} (hl : z.length ≤ sizeLine) (h : atI z.cps.toList i = some c) : Bin K (rIx K) (.str z) (.int i) (.str ⟨#[c]⟩) := fun I H u v e r1 r2 Q q => by
  cases r1; cases r2
  exact .inr (.inr ⟨z, i, c, rfl, rfl, hl, h, q I H _ (Gr.refl e) (.str _)⟩)
/-- an item of a list that may change -/
theorem e_ixC {ta tb : TE} {ds : List D} {i : Int} {d : D} (ha : C K Γ ta ds) (hb : E K Γ tb (.int i)) (h : atI ds i = some d) : E K Γ (tOp (rIx K) ta tb) d := fun I σ H as e l Q q =>
  ha I σ H as e l _ fun I1 H1 a vs g1 hs r1 => hb I1 σ H1 as g1.ih (l.mono g1) _ fun I2 H2 w g2 r2 => by
    cases r2
    obtain ⟨w, hw, rw'⟩ := rps_at r1 h
    exact .inl ⟨a, vs, i, w, rfl, rfl, ex_l g2.ex hs, hw, q I2 H2 w (g1.trans g2) (rw'.mono g2.i)⟩
/-! slices -/
def cutD (xs : List D) (lo hi : Option Int) : List D := (xs.drop (HT.sIx xs.length 0 lo)).take (HT.sIx xs.length xs.length hi - HT.sIx xs.length 0 lo)
theorem rps_cut {I : Hp} {vs : List V} {ds : List D} {lo hi : Option Int} (r : Rps K I vs ds) : Rps K I (cutV vs lo hi) (cutD ds lo hi) := by
  unfold cutV cutD
  rw [r.length]
  exact (r.drop _).take _
theorem eo_none : EO K Γ tNoPart none := fun I σ H as e l Q q => q I H (Gr.refl e)
theorem eo_some {te : TE} {i : Int} (h : E K Γ te (.int i)) : EO K Γ (tPart te) (some i) := fun I σ H as e l Q q => h I σ H as e l _ fun I1 H1 v g1 r1 => by
  cases r1
  exact ⟨i, rfl, q I1 H1 g1⟩
theorem e_slC {te : TE} {tl th : TO} {ds : List D} {lo hi : Option Int} (h : C K Γ te ds) (h1 : EO K Γ tl lo) (h2 : EO K Γ th hi) : E K Γ (tSl (uSl K) te tl th) (.lst (cutD ds lo hi)) := fun I σ H as e l Q q =>
  h I σ H as e l _ fun I1 H1 a vs g1 hs r1 => h1 I1 σ H1 as g1.ih (l.mono g1) _ fun I2 H2 g2 => h2 I2 σ H2 as g2.ih (l.mono (g1.trans g2)) _ fun I3 H3 g3 => by
    refine .inl ⟨a, vs, rfl, ex_l (g2.trans g3).ex hs, fun p hp => ?_⟩
    have g := (g1.trans g2).trans g3
    exact q _ _ _ (g.trans (Gr.new g.ih hp)) (.lst upd_same ((rps_cut (r1.mono (g2.trans g3).i)).mono (Ex.new (g.ih.free hp))))
theorem e_sl_l {te : TE} {tl th : TO} {d : D} {ds : List D} {lo hi : Option Int} (h : E K Γ te d) (hl : LD d ds) (h1 : EO K Γ tl lo) (h2 : EO K Γ th hi) : E K Γ (tSl (uSl K) te tl th) (.lst (cutD ds lo hi)) := e_slC (h.c hl) h1 h2
theorem e_sl_s {te : TE} {tl th : TO} {z : Str} {lo hi : Option Int} (h : E K Γ te (.str z)) (h1 : EO K Γ tl lo) (h2 : EO K Γ th hi) (hl : z.length ≤ sizeLine) : E K Γ (tSl (uSl K) te tl th) (.str (cutS z lo hi)) := fun I σ H as e l Q q =>
  h I σ H as e l _ fun I1 H1 v g1 r1 => h1 I1 σ H1 as g1.ih (l.mono g1) _ fun I2 H2 g2 => h2 I2 σ H2 as g2.ih (l.mono (g1.trans g2)) _ fun I3 H3 g3 => by
    cases r1
    exact .inr (.inr ⟨z, rfl, hl, q I3 H3 _ ((g1.trans g2).trans g3) (.str _)⟩)
theorem e_sl_t {te : TE} {tl th : TO} {ds : List D} {lo hi : Option Int} (h : E K Γ te (.tup ds)) (h1 : EO K Γ tl lo) (h2 : EO K Γ th hi) : E K Γ (tSl (uSl K) te tl th) (.tup (cutD ds lo hi)) := fun I σ H as e l Q q =>
  h I σ H as e l _ fun I1 H1 v g1 r1 => h1 I1 σ H1 as g1.ih (l.mono g1) _ fun I2 H2 g2 => h2 I2 σ H2 as g2.ih (l.mono (g1.trans g2)) _ fun I3 H3 g3 => by
    cases r1 with
    | @tup a vs _ hs hr =>
      have g := (g1.trans g2).trans g3
      have hs3 := ex_t (g2.trans g3).i hs
      have hr3 := hr.mono (g2.trans g3).i
      refine .inr (.inl ⟨a, vs, rfl, ex_t g3.ih hs3, fun hw => ?_, fun _ p hp => ?_⟩)
      · have : cutD ds lo hi = ds := by
          unfold cutD
          rw [← hr.length, hw.1, hw.2, List.drop_zero, Nat.sub_zero, hr.length]
          exact List.take_length
        rw [this] at q
        exact q I3 H3 _ g (.tup hs3 hr3)
      · exact q _ _ _ (g.trans (Gr.new g.ih hp)) (.tup (.inl (.inl upd_same)) ((rps_cut hr3).mono (Ex.new (g.ih.free hp))))
/-! built-in functions -/
theorem ca_len_s {z : Str} (hl : z.length ≤ sizeLine) : Ca K (uLen K) [.str z] (.int z.length) := fun I H us e r Q q => by
  cases r with
  | cons a b =>
    cases b; cases a
    exact .inl ⟨_, z.length, rfl, ⟨hl, rfl⟩, q I H _ (Gr.refl e) (.int _)⟩
theorem ca_len_l {d : D} {ds : List D} (hl : LD d ds) : Ca K (uLen K) [d] (.int ds.length) := fun I H us e r Q q => by
  cases r with
  | cons a b =>
    cases b
    obtain ⟨a, vs, rfl, hs, hr⟩ := a.l hl
    exact .inl ⟨_, ds.length, rfl, .inl ⟨vs, ex_l e hs, hr.length.symm⟩, q I H _ (Gr.refl e) (.int _)⟩
theorem ca_len_t {ds : List D} : Ca K (uLen K) [.tup ds] (.int ds.length) := fun I H us e r Q q => by
  cases r with
  | cons a b =>
    cases b
    cases a with
    | tup hs hr => exact .inl ⟨_, ds.length, rfl, .inr ⟨_, ex_t e hs, hr.length.symm⟩, q I H _ (Gr.refl e) (.int _)⟩
theorem ca_len_d {ks : List Key} {ds : List D} : Ca K (uLen K) [.dic ks ds] (.int ks.length) := fun I H us e r Q q => by
  cases r with
  | cons a b =>
    cases b
    cases a with
    | @dic _ _ vs _ h1 h2 h3 =>
      refine .inr ⟨_, _, rfl, e _ _ h1, ?_⟩
      have : (ks.zip vs).length = ks.length := by rw [List.length_zip, ← h2]; omega
      rw [this]
      exact q I H _ (Gr.refl e) (.int _)
theorem e_lenC {te : TE} {ds : List D} (h : C K Γ te ds) : E K Γ (tCB (uLen K) (tCons te tNil)) (.int ds.length) := fun I σ H as e l Q q =>
  h I σ H as e l _ fun I1 H1 a vs g1 hs r1 => .inl ⟨_, ds.length, rfl, .inl ⟨vs, hs, r1.length.symm⟩, q I1 H1 _ g1 (.int _)⟩
theorem ca_all {d : D} {bs : List Bool} (hl : LD d (bs.map D.bl)) : Ca K (rAll K) [d] (.bl (bs.all id)) := fun I H us e r Q q => by
  cases r with
  | cons a b =>
    cases b
    obtain ⟨p, vs, rfl, hs, hr⟩ := a.l hl
    rw [rps_bls hr] at hs
    exact ⟨p, bs, rfl, ex_l e hs, q I H _ (Gr.refl e) (.bl _)⟩
theorem ca_any {d : D} {bs : List Bool} (hl : LD d (bs.map D.bl)) : Ca K (rAny K) [d] (.bl (bs.any id)) := fun I H us e r Q q => by
  cases r with
  | cons a b =>
    cases b
    obtain ⟨p, vs, rfl, hs, hr⟩ := a.l hl
    rw [rps_bls hr] at hs
    exact ⟨p, bs, rfl, ex_l e hs, q I H _ (Gr.refl e) (.bl _)⟩
theorem ca_max2 {i j : Int} : Ca K (fun xs H Q => ∃ i j, xs = [.int i, .int j] ∧ Q (.int (if j > i then j else i)) H) [.int i, .int j] (.int (if j > i then j else i)) := fun I H us e r Q q => by
  cases r with
  | cons a b =>
    cases a
    cases b with
    | cons b c =>
      cases b; cases c
      exact ⟨i, j, rfl, q I H _ (Gr.refl e) (.int _)⟩
theorem ca_min2 {i j : Int} : Ca K (fun xs H Q => ∃ i j, xs = [.int i, .int j] ∧ Q (.int (if j < i then j else i)) H) [.int i, .int j] (.int (if j < i then j else i)) := fun I H us e r Q q => by
  cases r with
  | cons a b =>
    cases a
    cases b with
    | cons b c =>
      cases b; cases c
      exact ⟨i, j, rfl, q I H _ (Gr.refl e) (.int _)⟩
/-- the built-in class of data -/
def tyD : D → String
  | .non => "NoneType"
  | .bl _ => "bool"
  | .int _ => "int"
  | .str _ => "str"
  | .lst _ => "list"
  | .fl _ => "list"
  | .tup _ => "tuple"
  | .dic _ _ => "dict"
  | _ => "?"
theorem tyx_of {I H : Hp} {v : V} {d : D} (e : Ex I H) (r : Rp K I v d) (h : tyD d ≠ "?") : TyX K H v (.type (tyD d)) := by
  cases r with
  | non => exact .base .non
  | bl b => exact .base (.bl b)
  | int b => exact .base (.int b)
  | str b => exact .base (.str b)
  | lst a r => exact .base (.lst (e _ _ a))
  | fl a r =>
    rcases a with (a | ⟨o, a⟩) | ⟨o, its, n, h1, h2, _⟩
    · exact .base (.lst (e _ _ a))
    · exact .base (.frz (e _ _ a))
    · exact .kList h1 h2
  | tup a r =>
    rcases a with (a | ⟨o, a⟩) | ⟨o, its, n, h1, h2, _⟩
    · exact .base (.tup (e _ _ a))
    · exact .fTuple (e _ _ a)
    · exact .kTuple h1 h2
  | dic a => exact .base (.dK (e _ _ a))
  | _ => exact absurd rfl h
theorem ca_isi {d : D} {n : String} {b : Bool} (h : tyD d ≠ "?") (hk : kitB (tyD d) n = some b) : Ca K (rIsi K) [d, .ty n] (.bl b) := fun I H us e r Q q => by
  cases r with
  | cons a r =>
    cases r with
    | cons c r =>
      cases r
      cases c
      exact ⟨_, _, _, _, b, rfl, .ty n, tyx_of e a h, kit_ty hk, q I H _ (Gr.refl e) (.bl _)⟩
theorem e_ty {n : String} : E K Γ (tC (.ty n)) (.ty n) := fun I σ H as e _ Q q => q I H _ (Gr.refl e) (.ty n)
theorem un_neg' {i : Int} : Un1 K (rU fun i => .int (-i)) (.int i) (.int (-i)) := fun I H u e r Q q => by
  cases r
  exact ⟨i, rfl, q I H _ (Gr.refl e) (.int _)⟩
/-! texts -/
def rJoin (K : PySem.W.Frag) : V → List V → Hp → VK → Prop := fun x xs H Q => ∃ a p, ∃ ys : List Str, x = .str a ∧ xs = [.ref p] ∧ (SqL K H p (ys.map V.str) ∨ SqT K H p (ys.map V.str)) ∧
      (ys.map (·.length)).sum + ys.length * a.length ≤ 16777216 ∧ Q (.str (Txt.join a ys)) H
theorem e_join {to te : TE} {a : Str} {ys : List Str} (ho : E K Γ to (.str a)) (h : C K Γ te (ys.map D.str)) (hl : (ys.map (·.length)).sum + ys.length * a.length ≤ 16777216) : E K Γ (tM1 (rJoin K) to te) (.str (Txt.join a ys)) := fun I σ H as e l Q q =>
  ho I σ H as e l _ fun I1 H1 v g1 r1 => by
    cases r1
    refine ⟨⟨a, rfl⟩, h I1 σ H1 as g1.ih (l.mono g1) _ fun I2 H2 p vs g2 hs r2 => ?_⟩
    rw [rps_strs r2] at hs
    exact ⟨a, p, ys, rfl, rfl, .inl hs, hl, q I2 H2 _ (g1.trans g2) (.str _)⟩
/-! chains -/
theorem e_chain {r r' : R2} {ta tb tc : TE} {x y z : D} {b b' : Bool} (ha : E K Γ ta x) (hb : E K Γ tb y) (hc : b = true → E K Γ tc z) (h1 : Bin K r x y (.bl b)) (h2 : b = true → Bin K r' y z (.bl b')) : E K Γ (tChain r r' ta tb tc) (.bl (b && b')) := fun I σ H as e l Q q =>
  ha I σ H as e l _ fun I1 H1 u g1 r1 => hb I1 σ H1 as g1.ih (l.mono g1) _ fun I2 H2 v g2 r2 => h1 I2 H2 u v g2.ih (r1.mono g2.i) r2 _ fun I3 H3 w g3 r3 => by
    cases r3
    refine ⟨b, rfl, ?_⟩
    have g := (g1.trans g2).trans g3
    cases b with
    | true =>
      refine hc rfl I3 σ H3 as g.ih (l.mono g) _ fun I4 H4 w g4 r4 => ?_
      exact h2 rfl I4 H4 v w g4.ih (r2.mono (g3.trans g4).i) r4 _ fun I5 H5 x g5 r5 => q I5 H5 x ((g.trans g4).trans g5) r5
    | false => exact q I3 H3 _ g (.bl false)
end
end G

namespace G
open PySem PySem.Spec L2
/-- where a def of the text stands -/
structure DefAt (K : PySem.W.Frag) (mg : Str → Option Value) (x qual : Str) (st : Stmt) (ps : List Str) : Prop where
  ex : ∃ f fd, Fun K x qual st f fd ∧ mg x = some (.ref f) ∧ Binds K fd ps []
/-- a def of the text that keeps a promise -/
structure Callee (P : Program) (w : World) (K : PySem.W.Frag) (mg : Str → Option Value) (base : Heap) (x : Str) (k : Nat) (ps : List Str) (R : List D → D → Prop) : Prop where
  ex : ∃ f fd, FnOk P w K mg base CX0 k f fd ps (spR K R) ∧ mg x = some (.ref f) ∧ PySem.W.keepIn K (.ref f) = true ∧ Binds K fd ps [] ∧ ∃ (oc : Value) (od : Option Addr) (osl : Array (Option Value)), K.lookup f = some ⟨oc, od, .func fd, osl⟩
section
variable {X : Cx} {x : Str} {j k : Nat} {ps : List Str} {R : List D → D → Prop} {p pos : Pos} {e : Expr} {es : List Expr} {t : TA}
theorem pe_callC (c : Callee X.prog X.w X.K X.mg X.base x k ps R) (hr : Room j X.A) (hk : k ≤ j) (hg : Gl X x) (ha : PA X (e :: es) t) (hdb : (x == ("__debug__" : Str)) = false := by decide)
    (he : starEach (e :: es) X.env = (false, eval e X.env) :: starEach es X.env := by rfl) (hpl : (backTo pos (starEach es X.env)).any (·.1) = false := by rfl) (hx : Passes CX0 X E0 := by exact pass0) :
    PE X (.Call (.Name x p) (e :: es) [] pos) (tCall (spR X.K R) [] E0 t) := by
  obtain ⟨f, fd, F, hm, kp, b, _⟩ := c.ex
  exact pe_call F (hr.mono hk) hg hm kp b .nil hx ha hdb he hpl
theorem pe_callC0 (c : Callee X.prog X.w X.K X.mg X.base x k ps R) (hr : Room j X.A) (hk : k ≤ j) (hg : Gl X x) (hdb : (x == ("__debug__" : Str)) = false := by decide) (hx : Passes CX0 X E0 := by exact pass0) :
    PE X (.Call (.Name x p) [] [] pos) (tCall (spR X.K R) [] E0 tNil) := by
  obtain ⟨f, fd, F, hm, kp, b, _⟩ := c.ex
  exact pe_call0 F (hr.mono hk) hg hm kp b .nil hx hdb
/-- a global that holds a value -/
def GlobIs (mg : Str → Option Value) (x : Str) (v : V) : Prop := ∃ u, mg x = some u ∧ RelV v u
theorem pe_gl {v : V} (h : GlobIs X.mg x v) (hg : Gl X x := by rfl) (hd : (x == ("__debug__" : Str)) = false := by decide) : PE X (.Name x pos) (tC v) := by
  obtain ⟨u, hm, r⟩ := h
  exact pe_glob hg hm r hd
end
theorem ok_def {P : Program} {w : World} {K : PySem.W.Frag} {mg : Str → Option Value} {base : Heap} {x qual : Str} {st : Stmt} {N ps : List Str} {k : Nat} {R : List D → D → Prop} (F : DefAt K mg x qual st ps) (S : FnScope N ps (defScope st)) (hn : ∀ ds d, R ds d → ds.length = ps.length)
    (hb : ∀ (f : Addr) (cdv : Value) (A : Around) (outer : List Env) (s : Shared) (H : Hp) (E : XK), Room k (A.deeper (PyProof.Rows.envOfC qual (defScope st) s.heap.objs.size f cdv)) →
      ∃ t, PSs (cxOf CX0 P w K mg base N qual (defScope st) f cdv A outer s H E).nox (defBody st) t ∧ ∀ (I H' : Hp) ds d, R ds d → B ⟨K, I, H', [], fun _ _ _ _ => False⟩ (slots N ds) t { nx := fun _ => d = .non, rt := fun e _ => e = d }) :
    Callee P w K mg base x (k + 1) ps R := by
  obtain ⟨f, fd, F1, hm, b⟩ := F.ex
  obtain ⟨oc, od, kV, doc, pm, an, cdv, ct, osl, rfl, lk, _⟩ := id F1.ex
  exact ⟨f, _, ok_of F1 S hn (hb f), hm, F1.kp, b, oc, od, osl, lk⟩
theorem Callee.fn {P : Program} {w : World} {K : PySem.W.Frag} {mg : Str → Option Value} {base : Heap} {x qual : Str} {st : Stmt} {ps : List Str} {k : Nat} {R : List D → D → Prop} {f : Addr} {fd : FuncData} (C : Callee P w K mg base x k ps R) (F : Fun K x qual st f fd) (hm : mg x = some (.ref f)) : FnOk P w K mg base CX0 k f fd ps (spR K R) := by
  obtain ⟨f', fd', FF, hm', _, _, oc, od, osl, lk⟩ := C.ex
  obtain ⟨oc2, od2, kV, doc, pm, an, cdv, ct, osl2, _, lk2, _⟩ := F.ex
  rw [hm] at hm'
  cases hm'
  rw [lk] at lk2
  cases lk2
  exact FF
def spLaw (K : PySem.W.Frag) : Sp := fun vs H Q _ => ∃ (a : Addr) (ns : List Int), vs = [.ref a] ∧ SqL K H a (ns.map V.int) ∧ ns.length ≤ 63 ∧ ∀ H', Q (.bl true) H'
/-- the law -/
theorem law_fn {P : Program} {w : World} {K : PySem.W.Frag} {mg : Str → Option Value} {base : Heap} {qual : Str} {st : Stmt} {ps : List Str} {k : Nat} {R : List D → D → Prop} {f : Addr} {fd : FuncData} (C : Callee P w K mg base "law" k ps R) (F : Fun K "law" qual st f fd) (hm : mg "law" = some (.ref f))
    (hR : ∀ ns : List Int, ns.length ≤ 63 → R [.fl (ns.map D.int)] (.bl true)) : FnOk P w K mg base CX0 k f fd ps (spLaw K) :=
  (C.fn F hm).imp fun vs H Q E h => by
    obtain ⟨a, ns, rfl, hs, hl, q⟩ := h
    exact ⟨H, [.fl (ns.map D.int)], .bl true, Ex.refl H, .cons (.fl hs rps_of_ints) .nil, hR ns hl, fun I' H' v _ r => by cases r; exact q H'⟩
def uLt : R2 := fun x y H Q => rI0 (fun i j => .bl (decide (i < j))) x y H Q ∨ (∃ i j : Str, x = .str i ∧ y = .str j ∧ Q (.bl (decide (i.cps.toList < j.cps.toList))) H)
theorem op_uLt {X : Cx} : OpR X (compareOp .Lt) uLt := op_or op_lt op_lt_str
def uLe : R2 := fun x y H Q => rI0 (fun i j => .bl (decide (i ≤ j))) x y H Q ∨ (∃ i j : Str, x = .str i ∧ y = .str j ∧ Q (.bl (!decide (j.cps.toList < i.cps.toList))) H)
theorem op_uLe {X : Cx} : OpR X (compareOp .LtE) uLe := op_or op_le op_le_str
def uGt : R2 := fun x y H Q => rI0 (fun i j => .bl (decide (j < i))) x y H Q ∨ (∃ i j : Str, x = .str i ∧ y = .str j ∧ Q (.bl (decide (j.cps.toList < i.cps.toList))) H)
theorem op_uGt {X : Cx} : OpR X (compareOp .Gt) uGt := op_or op_gt op_gt_str
def uGe : R2 := fun x y H Q => rI0 (fun i j => .bl (decide (j ≤ i))) x y H Q ∨ (∃ i j : Str, x = .str i ∧ y = .str j ∧ Q (.bl (!decide (i.cps.toList < j.cps.toList))) H)
theorem op_uGe {X : Cx} : OpR X (compareOp .GtE) uGe := op_or op_ge op_ge_str
section
variable {K : PySem.W.Frag}
theorem bin_lt {i j : Int} : Bin K uLt (.int i) (.int j) (.bl (decide (i < j))) := fun I H u v e r1 r2 Q q => by
  cases r1; cases r2
  exact .inl ⟨i, j, rfl, rfl, q I H _ (Gr.refl e) (.bl _)⟩
theorem bin_le {i j : Int} : Bin K uLe (.int i) (.int j) (.bl (decide (i ≤ j))) := fun I H u v e r1 r2 Q q => by
  cases r1; cases r2
  exact .inl ⟨i, j, rfl, rfl, q I H _ (Gr.refl e) (.bl _)⟩
theorem bin_gt {i j : Int} : Bin K uGt (.int i) (.int j) (.bl (decide (j < i))) := fun I H u v e r1 r2 Q q => by
  cases r1; cases r2
  exact .inl ⟨i, j, rfl, rfl, q I H _ (Gr.refl e) (.bl _)⟩
theorem bin_ge {i j : Int} : Bin K uGe (.int i) (.int j) (.bl (decide (j ≤ i))) := fun I H u v e r1 r2 Q q => by
  cases r1; cases r2
  exact .inl ⟨i, j, rfl, rfl, q I H _ (Gr.refl e) (.bl _)⟩
theorem bin_le_s {i j : Str} : Bin K uLe (.str i) (.str j) (.bl (!decide (j.cps.toList < i.cps.toList))) := fun I H u v e r1 r2 Q q => by
  cases r1; cases r2
  exact .inr ⟨i, j, rfl, rfl, q I H _ (Gr.refl e) (.bl _)⟩
theorem bin_lt_s {i j : Str} : Bin K uLt (.str i) (.str j) (.bl (decide (i.cps.toList < j.cps.toList))) := fun I H u v e r1 r2 Q q => by
  cases r1; cases r2
  exact .inr ⟨i, j, rfl, rfl, q I H _ (Gr.refl e) (.bl _)⟩
theorem bin_isN {d : D} {b : Bool} (h : ∀ I v, Rp K I v d → decide (v = .non) = b) : Bin K (fun x y H Q => y = .non ∧ Q (.bl (decide (x = .non))) H) d .non (.bl b) := fun I H u v e r1 r2 Q q => by
  cases r2
  exact ⟨rfl, by rw [h I u r1]; exact q I H _ (Gr.refl e) (.bl _)⟩
end
end G

namespace G
open PySem PySem.Spec L2
/-! isinstance -/
def isInt : D → Bool
  | .int _ => true
  | .bl _ => true
  | _ => false
def isBool : D → Bool
  | .bl _ => true
  | _ => false
def isStr : D → Bool
  | .str _ => true
  | _ => false
def isLst : D → Bool
  | .lst _ => true
  | .fl _ => true
  | _ => false
def isTup : D → Bool
  | .tup _ => true
  | _ => false
def isDic : D → Bool
  | .dic _ _ => true
  | _ => false
/-- data of a built-in class -/
def plain : D → Bool
  | .obj _ _ _ => false
  | .exn _ _ _ => false
  | .ty _ => false
  | .ref _ => false
  | _ => true
theorem ty_plain {d : D} (h : plain d = true) : tyD d ≠ "?" := by cases d <;> first | (cases h; done) | (simp [tyD])
section
variable {K : PySem.W.Frag} {Γ : Sl}
theorem ca_is_int {d : D} (h : plain d = true) : Ca K (rIsi K) [d, .ty "int"] (.bl (isInt d)) := by
  refine ca_isi (ty_plain h) ?_
  cases d <;> first | (cases h; done) | (simp only [tyD, isInt, isBool, isStr, isLst, isTup, isDic]; decide +kernel)
theorem ca_is_bool {d : D} (h : plain d = true) : Ca K (rIsi K) [d, .ty "bool"] (.bl (isBool d)) := by
  refine ca_isi (ty_plain h) ?_
  cases d <;> first | (cases h; done) | (simp only [tyD, isInt, isBool, isStr, isLst, isTup, isDic]; decide +kernel)
theorem ca_is_str {d : D} (h : plain d = true) : Ca K (rIsi K) [d, .ty "str"] (.bl (isStr d)) := by
  refine ca_isi (ty_plain h) ?_
  cases d <;> first | (cases h; done) | (simp only [tyD, isInt, isBool, isStr, isLst, isTup, isDic]; decide +kernel)
theorem ca_is_lst {d : D} (h : plain d = true) : Ca K (rIsi K) [d, .ty "list"] (.bl (isLst d)) := by
  refine ca_isi (ty_plain h) ?_
  cases d <;> first | (cases h; done) | (simp only [tyD, isInt, isBool, isStr, isLst, isTup, isDic]; decide +kernel)
theorem ca_is_tup {d : D} (h : plain d = true) : Ca K (rIsi K) [d, .ty "tuple"] (.bl (isTup d)) := by
  refine ca_isi (ty_plain h) ?_
  cases d <;> first | (cases h; done) | (simp only [tyD, isInt, isBool, isStr, isLst, isTup, isDic]; decide +kernel)
theorem ca_is_dic {d : D} (h : plain d = true) : Ca K (rIsi K) [d, .ty "dict"] (.bl (isDic d)) := by
  refine ca_isi (ty_plain h) ?_
  cases d <;> first | (cases h; done) | (simp only [tyD, isInt, isBool, isStr, isLst, isTup, isDic]; decide +kernel)
/-! comprehensions without a test, what they give by a function -/
theorem e_lcY {α β : Type} {xs : List α} {em : α → D} {f : α → β} {emb : β → D} {wi : TI} {g : TG} {te : TE} {vs : List Nat} (hs : Src K Γ wi (xs.map em)) (hl : xs.length ≤ 10000000)
    (ht : ∀ (i : Nat) (x : α), xs[i]? = some x → ∃ ws Γ1, Tgt K g (em x) ws (wipeG Γ vs) Γ1 ∧ (∀ j ∈ ws, j ∈ vs) ∧ E K Γ1 te (emb (f x))) : E K Γ (tLc wi g tYes te vs) (.lst ((xs.map f).map emb)) := by
  have := e_lc (p := fun _ => true) (f := fun x => emb (f x)) (tt := tYes) hs hl fun i x hx => by
    obtain ⟨ws, Γ1, a, b, c⟩ := ht i x hx
    exact ⟨ws, Γ1, a, b, t_yes, fun _ => c⟩
  have e : xs.filter (fun _ => true) = xs := List.filter_eq_self.mpr fun _ _ => rfl
  rw [e] at this
  rw [List.map_map]
  exact this
theorem e_lcF {α β : Type} {xs : List α} {em : α → D} {p : α → Bool} {f : α → β} {emb : β → D} {wi : TI} {g : TG} {tt : TT} {te : TE} {vs : List Nat} (hs : Src K Γ wi (xs.map em)) (hl : xs.length ≤ 10000000)
    (ht : ∀ (i : Nat) (x : α), xs[i]? = some x → ∃ ws Γ1, Tgt K g (em x) ws (wipeG Γ vs) Γ1 ∧ (∀ j ∈ ws, j ∈ vs) ∧ T K Γ1 tt (p x) ∧ (p x = true → E K Γ1 te (emb (f x)))) : E K Γ (tLc wi g tt te vs) (.lst (((xs.filter p).map f).map emb)) := by
  have := e_lc (p := p) (f := fun x => emb (f x)) hs hl ht
  rw [List.map_map]
  exact this
theorem src_u_l {te : TE} {d : D} {ds : List D} (h : E K Γ te d) (hl : LD d ds) : Src K Γ (fun σ H R => iList K te σ H R ∨ (fun σ H R => iTup K te σ H R ∨ iStr te σ H R) σ H R) ds := src_or1 (src_list h hl)
theorem src_u_t {te : TE} {ds : List D} (h : E K Γ te (.tup ds)) : Src K Γ (fun σ H R => iList K te σ H R ∨ (fun σ H R => iTup K te σ H R ∨ iStr te σ H R) σ H R) ds := src_or2 (src_or1 (src_tup h))
theorem src_u_s {te : TE} {z : Str} (h : E K Γ te (.str z)) : Src K Γ (fun σ H R => iList K te σ H R ∨ (fun σ H R => iTup K te σ H R ∨ iStr te σ H R) σ H R) (z.cps.toList.map fun c => .str ⟨#[c]⟩) := src_or2 (src_or2 (src_str h))
end

/-! the rules with K said ahead -/
section
variable {X : Cx} (K : PySem.W.Frag) (hK : X.K = K := by rfl)
include hK
theorem k_add : OpR X (binaryOp .Add) (uAdd K) := by subst hK; exact op_uAdd
theorem k_eq (hu : X.A.units + 64 < cLine) : OpR X (compareOp .Eq) (uEq K) := by subst hK; exact op_uEq hu
theorem k_ne (hu : X.A.units + 64 < cLine) : OpR X (compareOp .NotEq) (uNe K) := by subst hK; exact op_uNe hu
theorem k_in : OpR X (compareOp .In) (uIn K) := by subst hK; exact op_uIn
theorem k_ni : OpR X (compareOp .NotIn) (uNi K) := by subst hK; exact op_uNi
theorem k_sl : SlR X (uSl K) := by subst hK; exact sl_u
theorem k_ix : IxR X (rIx K) := by subst hK; exact ix_seq
theorem k_len : CallR X (.builtin "len") (uLen K) := by subst hK; exact cr_uLen
theorem k_isi : CallR X (.builtin "isinstance") (rIsi K) := by subst hK; exact call_isi
theorem k_all (hc : X.calm = true) : CallR X (.builtin "all") (rAll K) := by subst hK; exact cr_all hc
theorem k_any (hc : X.calm = true) : CallR X (.builtin "any") (rAny K) := by subst hK; exact cr_any hc
theorem k_sum (hc : X.calm = true) : CallR X (.builtin "sum") (rSum K) := by subst hK; exact cr_sum hc
theorem k_it {tg e : Expr} {te : TE} (he : PE X e te) : PI X tg e (fun σ H R => iList K te σ H R ∨ (fun σ H R => iTup K te σ H R ∨ iStr te σ H R) σ H R) := by subst hK; exact pi_u he
theorem k_enum {e : Expr} {ta : TA} {p pos tpos : Pos} {elts : List Expr} {kk : Nat} (hg : Gl X "enumerate") (hm : X.mg "enumerate" = none) (ha : PA X [e] ta) (hs : starEach [e] X.env = [(false, eval e X.env)] := by rfl) :
    PI X (.Tuple elts kk tpos) (.Call (.Name "enumerate" p) [e] [] pos) (iEnum K ta) := by subst hK; exact pi_enum hg hm ha hs
theorem k_zip {e e2 : Expr} {ta : TA} {p pos tpos : Pos} {elts : List Expr} {kk : Nat} (hg : Gl X "zip") (hm : X.mg "zip" = none) (ha : PA X [e, e2] ta)
    (hs : starEach [e, e2] X.env = (false, eval e X.env) :: starEach [e2] X.env := by rfl) (hpl : (backTo pos (starEach [e2] X.env)).any (·.1) = false := by rfl) :
    PI X (.Tuple elts kk tpos) (.Call (.Name "zip" p) [e, e2] [] pos) (iZip K ta) := by subst hK; exact pi_zip hg hm ha hs hpl
theorem k_reversed {tg e : Expr} {ta : TA} {p pos : Pos} (hg : Gl X "reversed") (hm : X.mg "reversed" = none) (ha : PA X [e] ta) (hs : starEach [e] X.env = [(false, eval e X.env)] := by rfl) : PI X tg (.Call (.Name "reversed" p) [e] [] pos) (iRev K ta) := by subst hK; exact pi_reversed hg hm ha hs
theorem k_tup {es : List Expr} {k : Nat} {t : TGs} {n : Nat} {pos : Pos} (hc : X.calm = true) (h : PGs X es t)
    (hn : (assignEach es X.env).length = n := by rfl) (hst : (assignEach es X.env).findIdx? (·.1) = none := by rfl) : PG X (.Tuple es k pos) (gTup K n t) := by subst hK; exact pg_tup hc h hn hst
theorem k_join {o e : Expr} {to te : TE} {apos pos : Pos} (ho : PE X o to) (he : PE X e te) (hs : starEach [e] X.env = [(false, eval e X.env)] := by rfl) (hbase : attributeBase o "join" X.env (eval o X.env) = eval o X.env := by rfl) (hline : (apos.endLine == pos.line) = true := by rfl) :
    PE X (.Call (.Attribute o "join" apos) [e] [] pos) (tM1 (rJoin K) to te) := by subst hK; exact pe_join ho he hs hbase hline
theorem k_bm {T : String} {name : Str} {id : String} {r : V → List V → Hp → VK → Prop} {o e : Expr} {es : List Expr} {to : TE} {t : TA} {apos cpos : Pos} (pa : PlainAttrs T) (slot : Slot T name id) (hty : typeOf (.builtin id) = pure (.type "method_descriptor")) (hm : MtR X id r) (ho : PE X o to) (ha : PA X (e :: es) t)
    (hbase : attributeBase o name X.env (eval o X.env) = eval o X.env := by rfl)
    (hfew : ((backTo cpos (starEach (e :: es) X.env)).all (fun x => !x.1) && (backToKw cpos (keywordEach [] X.env)).all (fun x => x.1.isSome)
      && decide ((e :: es).length + ([] : List Keyword).length + (if ([] : List Keyword).isEmpty then 0 else 1) < 30)) = true := by rfl)
    (hline : (apos.endLine == cpos.line) = true := by rfl) (hst : starEach (e :: es) X.env = (false, eval e X.env) :: starEach es X.env := by rfl) (hpl : (backTo cpos (starEach es X.env)).any (·.1) = false := by rfl) :
    PE X (.Call (.Attribute o name apos) (e :: es) [] cpos) (tBM K T r to t) := by subst hK; exact pe_bm pa slot hty hm ho ha hbase hfew hline hst hpl
theorem k_bm0 {T : String} {name : Str} {id : String} {r : V → List V → Hp → VK → Prop} {o : Expr} {to : TE} {apos cpos : Pos} (pa : PlainAttrs T) (slot : Slot T name id) (hty : typeOf (.builtin id) = pure (.type "method_descriptor")) (hm : MtR X id r) (ho : PE X o to)
    (hbase : attributeBase o name X.env (eval o X.env) = eval o X.env := by rfl) (hline : (apos.endLine == cpos.line) = true := by rfl) : PE X (.Call (.Attribute o name apos) [] [] cpos) (tBM0 K T r to) := by subst hK; exact pe_bm0 pa slot hty hm ho hbase hline
end
section
variable {X : Cx} {P : Program} {w : World} (K : PySem.W.Frag) {mg : Str → Option Value} {base : Heap} {x : Str} {j k : Nat} {ps : List Str} {R : List D → D → Prop} {p pos : Pos} {e : Expr} {es : List Expr} {t : TA}
theorem k_call (c : Callee P w K mg base x k ps R) (hr : Room j X.A) (hk : k ≤ j) (hg : Gl X x) (ha : PA X (e :: es) t) (hdb : (x == ("__debug__" : Str)) = false := by decide)
    (he : starEach (e :: es) X.env = (false, eval e X.env) :: starEach es X.env := by rfl) (hpl : (backTo pos (starEach es X.env)).any (·.1) = false := by rfl) (hx : Passes CX0 X E0 := by exact pass0)
    (hX : X.prog = P ∧ X.w = w ∧ X.K = K ∧ X.mg = mg ∧ X.base = base := by exact ⟨rfl, rfl, rfl, rfl, rfl⟩) :
    PE X (.Call (.Name x p) (e :: es) [] pos) (tCall (spR K R) [] E0 t) := by
  obtain ⟨rfl, rfl, rfl, rfl, rfl⟩ := hX
  exact pe_callC c hr hk hg ha hdb he hpl hx
theorem k_call0 (c : Callee P w K mg base x k ps R) (hr : Room j X.A) (hk : k ≤ j) (hg : Gl X x) (hdb : (x == ("__debug__" : Str)) = false := by decide) (hx : Passes CX0 X E0 := by exact pass0)
    (hX : X.prog = P ∧ X.w = w ∧ X.K = K ∧ X.mg = mg ∧ X.base = base := by exact ⟨rfl, rfl, rfl, rfl, rfl⟩) :
    PE X (.Call (.Name x p) [] [] pos) (tCall (spR K R) [] E0 tNil) := by
  obtain ⟨rfl, rfl, rfl, rfl, rfl⟩ := hX
  exact pe_callC0 c hr hk hg hdb hx
end
end G

namespace G
open PySem PySem.Spec L2
section
variable {K : PySem.W.Frag} {Γ : Sl} {c : Cz} {κ : Ks}
theorem bin_mod {i j : Int} (h : 0 < j) : Bin K (rI (fun _ j => j ≠ 0) fun i j => .int (i.fmod j)) (.int i) (.int j) (.int (i % j)) := by
  have e : i.fmod j = i % j := Int.fmod_eq_emod_of_nonneg i (Int.le_of_lt h)
  rw [← e]
  exact bin_I (g := fun i j => i.fmod j) (by omega)
theorem bin_div {i j : Int} (h : 0 < j) (hj : j < 2 ^ 64) : Bin K (rI CDivW fun i j => .int (i / j)) (.int i) (.int j) (.int (i / j)) := by
  refine bin_I (g := fun i j => i / j) ⟨h, ?_⟩
  have h2 : j.natAbs < 2 ^ 64 := by omega
  have h3 : j.natAbs ≠ 0 := by omega
  exact Nat.lt_trans ((Nat.log2_lt h3).mpr h2) (by decide)
theorem log2_64 {n : Nat} (h : n < 2 ^ 64) : n.log2 < 64 := by
  by_cases z : n = 0
  · subst z; decide
  · exact (Nat.log2_lt z).mpr h
theorem mul_ok {i j : Int} (hi : -(2 ^ 64) < i ∧ i < 2 ^ 64) (hj : -(2 ^ 64) < j ∧ j < 2 ^ 64) : i.natAbs.log2 + j.natAbs.log2 < 1000000 := by
  have a := log2_64 (n := i.natAbs) (by omega)
  have b := log2_64 (n := j.natAbs) (by omega)
  omega
theorem bin_mul64 {i j : Int} (hi : -(2 ^ 64) < i ∧ i < 2 ^ 64) (hj : -(2 ^ 64) < j ∧ j < 2 ^ 64) : Bin K uMul (.int i) (.int j) (.int (i * j)) := bin_mul (mul_ok hi hj)
theorem bin_pow {i j r : Int} (h : 0 ≤ j ∧ j ≤ 1000000 ∧ i.natAbs < 2 ^ 64) (e : i ^ j.toNat = r) : Bin K (rI CPow fun i j => .int (i ^ j.toNat)) (.int i) (.int j) (.int r) := by
  subst e
  exact bin_I (g := fun i j => i ^ j.toNat) h
theorem atI_nat' {α : Type} {xs : List α} {i : Int} {n : Nat} {x : α} (hi : i = n) (h : xs[n]? = some x) : atI xs i = some x := by
  rw [hi]; exact atI_nat h
theorem atI_get {α : Type} {xs : List α} {i : Int} (h0 : 0 ≤ i) (h1 : i < xs.length) : atI xs i = some (xs[i.toNat]'(by omega)) :=
  atI_nat' (n := i.toNat) (by omega) (List.getElem?_eq_getElem (by omega))
theorem atI_getD {α : Type} {xs : List α} {i : Int} (d : α) (h0 : 0 ≤ i) (h1 : i < xs.length) : atI xs i = some (xs.getD i.toNat d) := by
  refine atI_nat' (n := i.toNat) (by omega) ?_
  rw [List.getD_eq_getElem?_getD, List.getElem?_eq_getElem (by omega)]
  rfl
theorem sIx0 (n : Nat) : HT.sIx n 0 none = 0 := rfl
theorem sIxN (n d : Nat) : HT.sIx n d none = d := rfl
theorem sIxI {n d : Nat} {i : Int} (h : 0 ≤ i) : HT.sIx n d (some i) = min i.toNat n := by
  unfold HT.sIx
  simp only
  rw [if_neg (by omega)]
/-- the slots as they are written -/
theorem b_show {ts : TS} {Γ' : Sl} (e : Γ = Γ') (h : B c Γ' ts κ) : B c Γ ts κ := e ▸ h
/-- a def whose end is told -/
theorem b_ret_is {te : TE} {d e : D} (h : E c.K Γ te d) (h2 : d = e) (k : κ.rt e Γ) : B c Γ (tRet te) κ := b_ret (h2 ▸ h) k
end
/-! texts by their codes -/
theorem str_length (s : Str) : s.length = s.cps.toList.length := rfl
theorem app_codes (x y : Str) : (x ++ y).cps.toList = x.cps.toList ++ y.cps.toList := by
  show (x.cps ++ y.cps).toList = _
  exact Array.toList_append
theorem cutS_codes (z : Str) (lo hi : Option Int) : (cutS z lo hi).cps.toList = ((z.cps.toList.drop (HT.sIx z.length 0 lo)).take (HT.sIx z.length z.length hi - HT.sIx z.length 0 lo)) := rfl
/-! a loop that folds -/
section
variable {c : Cz} {Γ : Sl} {κ : Ks}
theorem b_fold {α : Type} {xs : List α} {em : α → D} {wi : TI} {g : TG} {tb : TS} (hs : Src c.K Γ wi (xs.map em)) {S : Type} (step : S → α → S) (P : Nat → S → Prop) (Γf : S → Sl) (s0 : S) (h0 : P 0 s0) (l0 : Le (Γf s0) Γ) (hP : ∀ (i : Nat) (s : S) (x : α), xs[i]? = some x → P i s → P (i + 1) (step s x))
    (ht : ∀ (i : Nat) (s : S) (x : α), xs[i]? = some x → P i s → ∃ ws Γ1, Tgt c.K g (em x) ws (Γf s) Γ1 ∧ B c Γ1 tb ⟨fun Γ' => Le (Γf (step s x)) Γ', κ.rt, fun _ => False, fun Γ' => Le (Γf (step s x)) Γ', κ.ex⟩)
    (hd : P xs.length (xs.foldl step s0) → κ.nx (Γf (xs.foldl step s0))) : B c Γ (tFor wi g tb) κ := by
  refine b_for hs (fun i s => s = (xs.take i).foldl step s0 ∧ P i s) Γf s0 ⟨rfl, h0⟩ l0 ?_ ?_
  · rintro i s d hd ⟨e, p⟩
    rw [List.getElem?_map] at hd
    obtain ⟨x, hx⟩ : ∃ x, xs[i]? = some x := by
      cases hx : xs[i]? with
      | none => rw [hx] at hd; cases hd
      | some x => exact ⟨x, rfl⟩
    rw [hx] at hd
    cases hd
    obtain ⟨ws, Γ1, tg, hb⟩ := ht i s x hx p
    have e2 : step s x = (xs.take (i + 1)).foldl step s0 := by
      rw [List.take_add_one, hx, List.foldl_append, ← e]; rfl
    exact ⟨ws, Γ1, tg, b_ks hb (fun Γ' h => ⟨_, ⟨e2, hP i s x hx p⟩, h⟩) (fun _ _ h => h) (fun _ h => h.elim) (fun Γ' h => ⟨_, ⟨e2, hP i s x hx p⟩, h⟩)⟩
  · rintro s ⟨e, p⟩
    rw [List.length_map] at e p
    rw [List.take_length] at e
    subst e
    exact hd p
/-- a loop that only looks: it leaves (returns) or goes on -/
theorem b_look {α : Type} {xs : List α} {em : α → D} {wi : TI} {g : TG} {tb : TS} (hs : Src c.K Γ wi (xs.map em)) (P : Nat → Prop) (Γf : Sl) (h0 : P 0) (l0 : Le Γf Γ)
    (ht : ∀ (i : Nat) (x : α), xs[i]? = some x → P i → ∃ ws Γ1, Tgt c.K g (em x) ws Γf Γ1 ∧ B c Γ1 tb ⟨fun Γ' => P (i + 1) ∧ Le Γf Γ', κ.rt, fun _ => False, fun Γ' => P (i + 1) ∧ Le Γf Γ', κ.ex⟩)
    (hd : P xs.length → κ.nx Γf) : B c Γ (tFor wi g tb) κ := by
  refine b_for hs (fun i (_ : Unit) => P i) (fun _ => Γf) () h0 l0 ?_ ?_
  · rintro i s d hd p
    rw [List.getElem?_map] at hd
    obtain ⟨x, hx⟩ : ∃ x, xs[i]? = some x := by
      cases hx : xs[i]? with
      | none => rw [hx] at hd; cases hd
      | some x => exact ⟨x, rfl⟩
    rw [hx] at hd
    cases hd
    obtain ⟨ws, Γ1, tg, hb⟩ := ht i x hx p
    exact ⟨ws, Γ1, tg, b_ks hb (fun Γ' h => ⟨(), h.1, h.2⟩) (fun _ _ h => h) (fun _ h => h.elim) (fun Γ' h => ⟨(), h.1, h.2⟩)⟩
  · rintro s p
    rw [List.length_map] at p
    exact hd p
end
/-! dicts written out -/
section
variable {K : PySem.W.Frag} {Γ : Sl}
theorem e_dnew : E K Γ tDNewK (.dic [] []) := fun I σ H as e l Q q => fun p hp => q _ _ _ (Gr.new e hp) (.dic (ks := []) (xs := []) upd_same rfl .nil)
def EP (K : PySem.W.Frag) (Γ : Sl) (trs : List (TE × TE)) (ks : List Key) (ds : List D) : Prop := ∀ (I : Hp) (σ : St) (H : Hp) (as : Nat → Addr), Ex I H → Lo K I σ H as Γ → ∀ Q : List (V × V) → Hp → Prop,
  (∀ I' H' (vs : List V), Gr [] I H I' H' → ks.length = vs.length → Rps K I' vs ds → Q ((ks.zip vs).map fun kv => (kV kv.1, kv.2)) H') → tPairs trs σ H Q
theorem ep_nil : EP K Γ [] [] [] := fun I σ H as e l Q q => q I H [] (Gr.refl e) rfl .nil
theorem ep_str {tk tv : TE} {trs : List (TE × TE)} {s : Str} {d : D} {ks : List Key} {ds : List D} (h1 : E K Γ tk (.str s)) (h2 : E K Γ tv d) (h3 : EP K Γ trs ks ds) : EP K Γ ((tk, tv) :: trs) (.inr s :: ks) (d :: ds) := fun I σ H as e l Q q =>
  h1 I σ H as e l _ fun I1 H1 v g1 r1 => h2 I1 σ H1 as g1.ih (l.mono g1) _ fun I2 H2 w g2 r2 => h3 I2 σ H2 as g2.ih (l.mono (g1.trans g2)) _ fun I3 H3 vs g3 hl r3 => by
    cases r1
    exact q I3 H3 (w :: vs) ((g1.trans g2).trans g3) (by simp [hl]) (.cons (r2.mono g3.i) r3)
theorem ep_int {tk tv : TE} {trs : List (TE × TE)} {s : Int} {d : D} {ks : List Key} {ds : List D} (h1 : E K Γ tk (.int s)) (h2 : E K Γ tv d) (h3 : EP K Γ trs ks ds) : EP K Γ ((tk, tv) :: trs) (.inl s :: ks) (d :: ds) := fun I σ H as e l Q q =>
  h1 I σ H as e l _ fun I1 H1 v g1 r1 => h2 I1 σ H1 as g1.ih (l.mono g1) _ fun I2 H2 w g2 r2 => h3 I2 σ H2 as g2.ih (l.mono (g1.trans g2)) _ fun I3 H3 vs g3 hl r3 => by
    cases r1
    exact q I3 H3 (w :: vs) ((g1.trans g2).trans g3) (by simp [hl]) (.cons (r2.mono g3.i) r3)
theorem putK_app {k : Key} {v : V} : ∀ {kvs : List (Key × V)}, k ∉ kvs.map (·.1) → putK kvs k v = kvs ++ [(k, v)] := fun {kvs} h => by
  refine putK_new _ ?_
  cases e : valV kvs k with
  | none => rfl
  | some u => exact absurd (valV_in e) h
theorem merge_nodup : ∀ (kvs acc : List (Key × V)), ((acc ++ kvs).map (·.1)).Nodup → mergeK acc kvs = acc ++ kvs
  | [], acc, _ => by simp [mergeK]
  | (k, v) :: r, acc, h => by
    have h1 : k ∉ acc.map (·.1) := fun z => by
      rw [List.map_append, List.nodup_append] at h
      exact h.2.2 k z k (by simp) rfl
    show mergeK (putK acc k v) r = _
    rw [putK_app h1, merge_nodup r _ (by simpa using h)]
    simp
theorem e_disp {trs : List (TE × TE)} {ks : List Key} {ds : List D} (h : EP K Γ trs ks ds) (hn : ks.Nodup) (hl : ks.length ≤ 15) : E K Γ (tDisp trs) (.dic ks ds) := fun I σ H as e l Q q => fun p hp => by
  have l1 : Lo K I σ (upd H p (.dK [])) as Γ := l.mono (Gr.junk e hp)
  refine h I σ (upd H p (.dK [])) as (e.trans (Ex.new hp)) l1 _ fun I1 H1 vs g1 hlen r1 => ?_
  have hp1 : H1 p = some (.dK []) := g1.ex _ _ upd_same
  have g : Gr [] I H I1 H1 := (Gr.junk e hp).trans g1
  have n1 : I1 p = none := g1.none_i (e.free hp) (by rw [upd_same]; exact nofun)
  refine ⟨hp1, ks.zip vs, rfl, by rw [List.length_zip]; omega, ?_⟩
  have hk : (ks.zip vs).map (·.1) = ks := by rw [List.map_fst_zip]; omega
  have em : mergeK [] (ks.zip vs) = ks.zip vs := by
    have := merge_nodup (ks.zip vs) [] (by rw [List.nil_append, hk]; exact hn)
    simpa using this
  rw [em]
  refine q _ _ _ ((g.mut n1 (.inl hp)).frz n1 hp upd_same) (.dic upd_same hlen (r1.mono (Ex.new n1)))
end
end G

namespace G
open PySem PySem.Spec L2
def rLo (K : PySem.W.Frag) : List V → Hp → VK → Prop := fun xs H Q => ∃ p ys, xs = [.ref p] ∧ (SqL K H p ys ∨ SqT K H p ys) ∧ ∀ l, H l = none → Q (.ref l) (upd H l (.lst ys))
def rTo (K : PySem.W.Frag) : List V → Hp → VK → Prop := fun xs H Q => ∃ p ys, xs = [.ref p] ∧ ((SqL K H p ys ∧ ∀ l, H l = none → Q (.ref l) (upd H l (.tup ys))) ∨ (SqT K H p ys ∧ Q (.ref p) H))
section
variable {X : Cx} (K : PySem.W.Frag) (hK : X.K = K := by rfl)
include hK
theorem k_list : CallR X (.type "list") (rLo K) := by subst hK; exact call_list_of
theorem k_tuple : CallR X (.type "tuple") (rTo K) := by subst hK; exact call_tuple_of
end
section
variable {K : PySem.W.Frag} {Γ : Sl}
theorem e_listC {te : TE} {ds : List D} (h : C K Γ te ds) : E K Γ (tCB (rLo K) (tCons te tNil)) (.lst ds) := fun I σ H as e l Q q =>
  h I σ H as e l _ fun I1 H1 a vs g1 hs r1 => ⟨a, vs, rfl, .inl hs, fun p hp => q _ _ _ (g1.trans (Gr.new g1.ih hp)) (.lst upd_same (r1.mono (Ex.new (g1.ih.free hp))))⟩
theorem ca_list {d : D} {ds : List D} (hl : LD d ds) : Ca K (rLo K) [d] (.lst ds) := fun I H us e r Q q => by
  cases r with
  | cons a b =>
    cases b
    obtain ⟨p, vs, rfl, hs, hr⟩ := a.l hl
    exact ⟨p, vs, rfl, .inl (ex_l e hs), fun l hp => q _ _ _ (Gr.new e hp) (.lst upd_same (hr.mono (Ex.new (e.free hp))))⟩
theorem ca_list_t {ds : List D} : Ca K (rLo K) [.tup ds] (.lst ds) := fun I H us e r Q q => by
  cases r with
  | cons a b =>
    cases b
    cases a with
    | tup hs hr => exact ⟨_, _, rfl, .inr (ex_t e hs), fun l hp => q _ _ _ (Gr.new e hp) (.lst upd_same (hr.mono (Ex.new (e.free hp))))⟩
theorem ca_tuple {d : D} {ds : List D} (hl : LD d ds) : Ca K (rTo K) [d] (.tup ds) := fun I H us e r Q q => by
  cases r with
  | cons a b =>
    cases b
    obtain ⟨p, vs, rfl, hs, hr⟩ := a.l hl
    exact ⟨p, vs, rfl, .inl ⟨ex_l e hs, fun l hp => q _ _ _ (Gr.new e hp) (.tup (.inl (.inl upd_same)) (hr.mono (Ex.new (e.free hp))))⟩⟩
theorem ca_tuple_t {ds : List D} : Ca K (rTo K) [.tup ds] (.tup ds) := fun I H us e r Q q => by
  cases r with
  | cons a b =>
    cases b
    cases a with
    | tup hs hr => exact ⟨_, _, rfl, .inr ⟨ex_t e hs, q I H _ (Gr.refl e) (.tup hs hr)⟩⟩
/-! data for == -/
def okS (x : Str) : Bool := PyData.strOk x
mutual
def okD : D → Bool
  | .non => true
  | .bl _ => true
  | .int _ => true
  | .str s => okS s
  | .lst ds => okDs ds
  | .fl ds => okDs ds
  | .tup ds => okDs ds
  | _ => false
def okDs : List D → Bool
  | [] => true
  | d :: ds => okD d && okDs ds
end
mutual
def depD : D → Nat
  | .lst ds => depDs ds + 1
  | .fl ds => depDs ds + 1
  | .tup ds => depDs ds + 1
  | _ => 0
def depDs : List D → Nat
  | [] => 0
  | d :: ds => max (depD d) (depDs ds)
end
mutual
theorem okD_isP : ∀ d : D, okD d = true → isP d = true
  | .non, _ => by simp [isP]
  | .bl _, _ => by simp [isP]
  | .int _, _ => by simp [isP]
  | .str _, _ => by simp [isP]
  | .lst ds, h => by rw [isP]; exact okDs_isPs ds (by simpa [okD] using h)
  | .fl ds, h => by rw [isP]; exact okDs_isPs ds (by simpa [okD] using h)
  | .tup ds, h => by rw [isP]; exact okDs_isPs ds (by simpa [okD] using h)
  | .dic _ _, h => by simp [okD] at h
  | .obj _ _ _, h => by simp [okD] at h
  | .ty _, h => by simp [okD] at h
  | .ref _, h => by simp [okD] at h
theorem okDs_isPs : ∀ ds : List D, okDs ds = true → isPs ds = true
  | [], _ => by simp [isPs]
  | d :: ds, h => by
    rw [okDs, Bool.and_eq_true] at h
    rw [isPs, Bool.and_eq_true]
    exact ⟨okD_isP d h.1, okDs_isPs ds h.2⟩
end
mutual
theorem okD_lay : ∀ d : D, okD d = true → (toP d).canLay0 = true ∧ (toP d).depth = depD d
  | .non, _ => by simp [toP, PyData.canLay0, PyData.depth, depD]
  | .bl _, _ => by simp [toP, PyData.canLay0, PyData.depth, depD]
  | .int _, _ => by simp [toP, PyData.canLay0, PyData.depth, depD]
  | .str s, h => by simp [toP, PyData.canLay0, PyData.depth, depD]; simpa [okD, okS] using h
  | .lst ds, h => by have := okDs_lay ds (by simpa [okD] using h); simp [toP, PyData.canLay0, PyData.depth, depD, this]
  | .fl ds, h => by have := okDs_lay ds (by simpa [okD] using h); simp [toP, PyData.canLay0, PyData.depth, depD, this]
  | .tup ds, h => by have := okDs_lay ds (by simpa [okD] using h); simp [toP, PyData.canLay0, PyData.depth, depD, this]
  | .dic _ _, h => by simp [okD] at h
  | .obj _ _ _, h => by simp [okD] at h
  | .ty _, h => by simp [okD] at h
  | .ref _, h => by simp [okD] at h
theorem okDs_lay : ∀ ds : List D, okDs ds = true → PyData.canLayAll0 (toPs ds) = true ∧ PyData.depthAll (toPs ds) = depDs ds
  | [], _ => by simp [toPs, PyData.canLayAll0, PyData.depthAll, depDs]
  | d :: ds, h => by
    rw [okDs, Bool.and_eq_true] at h
    have h1 := okD_lay d h.1
    have h2 := okDs_lay ds h.2
    simp [toPs, PyData.canLayAll0, PyData.depthAll, depDs, h1, h2]
end
theorem shaped_of {d : D} (h : okD d = true) (hd : depD d ≤ 64) : SeqAt.shaped (toP d) = true := by
  have := okD_lay d h
  unfold SeqAt.shaped
  rw [this.1, this.2]
  simpa using hd
/-- Python's == -/
def eqD (x y : D) : Bool := PyData.eqv (toP x) (toP y)
def eqDs (x y : List D) : Bool := PyData.eqvAll (toPs x) (toPs y)
theorem bin_eqG {x y : D} (hx : okD x = true) (hy : okD y = true) (dx : depD x ≤ 64) (dy : depD y ≤ 64) : Bin K (uEq K) x y (.bl (eqD x y)) := bin_eqD (okD_isP x hx) (okD_isP y hy) (shaped_of hx dx) (shaped_of hy dy)
theorem bin_neG {x y : D} (hx : okD x = true) (hy : okD y = true) (dx : depD x ≤ 64) (dy : depD y ≤ 64) : Bin K (uNe K) x y (.bl (!eqD x y)) := bin_neD (okD_isP x hx) (okD_isP y hy) (shaped_of hx dx) (shaped_of hy dy)
theorem eqDs_nil : eqDs [] [] = true := by simp [eqDs, toPs, PyData.eqvAll]
theorem eqDs_cons (x y : D) (xs ys : List D) : eqDs (x :: xs) (y :: ys) = (eqD x y && eqDs xs ys) := by simp [eqDs, eqD, toPs, PyData.eqvAll]
theorem eqDs_nc (y : D) (ys : List D) : eqDs [] (y :: ys) = false := by simp [eqDs, toPs, PyData.eqvAll]
theorem eqDs_cn (y : D) (ys : List D) : eqDs (y :: ys) [] = false := by simp [eqDs, toPs, PyData.eqvAll]
theorem eqD_int (i j : Int) : eqD (.int i) (.int j) = decide (i = j) := by simp [eqD, toP, PyData.eqv]; rfl
theorem eqD_str (i j : Str) : eqD (.str i) (.str j) = decide (i = j) := by
  simp only [eqD, toP, PyData.eqv]
  by_cases h : i = j
  · subst h; simp
  · rw [decide_eq_false h]; exact beq_eq_false_iff_ne.mpr h
theorem eqD_lst (x y : List D) : eqD (.lst x) (.lst y) = eqDs x y := by simp [eqD, toP, PyData.eqv, eqDs]
theorem eqD_tup (x y : List D) : eqD (.tup x) (.tup y) = eqDs x y := by simp [eqD, toP, PyData.eqv, eqDs]
theorem eqDs_map {α : Type} [DecidableEq α] (f : α → D) (h : ∀ a b, eqD (f a) (f b) = decide (a = b)) : ∀ xs ys : List α, eqDs (xs.map f) (ys.map f) = decide (xs = ys)
  | [], [] => by simp [eqDs_nil]
  | [], _ :: _ => by simp [eqDs_nc]
  | _ :: _, [] => by simp [eqDs_cn]
  | x :: xs, y :: ys => by
    rw [List.map_cons, List.map_cons, eqDs_cons, h, eqDs_map f h xs ys]
    by_cases a : x = y <;> by_cases b : xs = ys <;> simp [a, b]
theorem eqDs_strs (xs ys : List Str) : eqDs (xs.map D.str) (ys.map D.str) = decide (xs = ys) := eqDs_map D.str eqD_str xs ys
theorem eqDs_ints (xs ys : List Int) : eqDs (xs.map D.int) (ys.map D.int) = decide (xs = ys) := eqDs_map D.int eqD_int xs ys
theorem okDs_strs {xs : List Str} (h : ∀ x ∈ xs, okS x = true) : okDs (xs.map D.str) = true := by
  induction xs with
  | nil => simp [okDs]
  | cons x xs ih => simp [okDs, okD, h x (by simp)]; exact ih fun y hy => h y (List.mem_cons_of_mem _ hy)
theorem depDs_strs (xs : List Str) : depDs (xs.map D.str) = 0 := by
  induction xs with
  | nil => simp [depDs]
  | cons x xs ih => simp [depDs, depD, ih]
theorem okS_of {x : Str} (h : ∀ c ∈ x.cps.toList, c < 1114112) : okS x = true := by
  unfold okS PyData.strOk
  rw [Array.all_eq_true_iff_forall_mem]
  intro c hc
  simpa using h c (by simpa using hc)
end
end G

namespace G
open PySem PySem.Spec L2
/-! ### going on: te gives some d of which k holds -/
/-- who evaluates: the written part, what is wished of an exception, which exceptions may leave -/
structure Xz where
  K : PySem.W.Frag
  W : WX
  x : Addr → List Str → List D → Prop
/-- no exception leaves -/
abbrev zNo (K : PySem.W.Frag) : Xz := ⟨K, fun _ _ _ _ => False, fun _ _ _ => False⟩
def XOk (z : Xz) (I H : Hp) (σ : St) : Prop := ∀ I' H' C ns ds dx, z.x C ns ds → Gr [] I H I' H' → XdAt z.K I' H' H dx ns ds → z.W (.ref C) (some dx) σ H'
theorem XdAt.back {K : PySem.W.Frag} {I H H0 H1 : Hp} {dx : Addr} {ns : List Str} {ds : List D} (x : XdAt K I H H1 dx ns ds) (e : ∀ a, H0 a ≠ none → H1 a ≠ none) : XdAt K I H H0 dx ns ds :=
  ⟨x.at_, x.ni, by
    cases q : H0 dx with
    | none => rfl
    | some o => exact absurd x.n0 (e dx (by rw [q]; exact nofun))⟩
theorem XOk.mono {z : Xz} {I H I1 H1 : Hp} {σ : St} (h : XOk z I H σ) (g : Gr [] I H I1 H1) : XOk z I1 H1 σ := fun I' H' C ns ds dx hx g' hd => h I' H' C ns ds dx hx (g.trans g') (hd.back g.th)
theorem XOk.no {K : PySem.W.Frag} {I H : Hp} {σ : St} : XOk (zNo K) I H σ := fun _ _ _ _ _ _ h => h.elim
section
variable (z : Xz)
def EN (Γ : Sl) (te : TE) (k : D → Prop) : Prop := ∀ (I : Hp) (σ : St) (H : Hp) (as : Nat → Addr), Ex I H → Lo z.K I σ H as Γ → XOk z I H σ → ∀ Q : VK, (∀ I' H' v d, k d → Gr [] I H I' H' → Rp z.K I' v d → Q v H') → te σ H Q
/-- te gives a list of ds; the list itself may be one that changes -/
def CN (Γ : Sl) (te : TE) (k : List D → Prop) : Prop := ∀ (I : Hp) (σ : St) (H : Hp) (as : Nat → Addr), Ex I H → Lo z.K I σ H as Γ → XOk z I H σ → ∀ Q : VK, (∀ I' H' a vs ds, k ds → Gr [] I H I' H' → SqL z.K H' a vs → Rps z.K I' vs ds → Q (.ref a) H') → te σ H Q
def EAN (Γ : Sl) (ta : TA) (k : List D → Prop) : Prop := ∀ (I : Hp) (σ : St) (H : Hp) (as : Nat → Addr), Ex I H → Lo z.K I σ H as Γ → XOk z I H σ → ∀ Q : List V → Hp → Prop, (∀ I' H' vs ds, k ds → Gr [] I H I' H' → Rps z.K I' vs ds → Q vs H') → ta σ H Q
def TN (Γ : Sl) (tt : TT) (k : Bool → Prop) : Prop := ∀ (I : Hp) (σ : St) (H : Hp) (as : Nat → Addr), Ex I H → Lo z.K I σ H as Γ → XOk z I H σ → ∀ Q : Bool → Hp → Prop, (∀ I' H' b, k b → Gr [] I H I' H' → Q b H') → tt σ H Q
def EON (Γ : Sl) (to : TO) (k : Option Int → Prop) : Prop := ∀ (I : Hp) (σ : St) (H : Hp) (as : Nat → Addr), Ex I H → Lo z.K I σ H as Γ → XOk z I H σ → ∀ Q : Option Int → Hp → Prop, (∀ I' H' o, k o → Gr [] I H I' H' → Q o H') → to σ H Q
def SN (Γ : Sl) (wi : TI) (k : List D → Prop) : Prop := ∀ (I : Hp) (σ : St) (H : Hp) (as : Nat → Addr), Ex I H → Lo z.K I σ H as Γ → XOk z I H σ → ∀ R : It → Hp → Prop, (∀ I' H' J xs, k xs → Gr [] I H I' H' → IsW z.K I' J xs → R J H') → wi σ H R
end
section
variable {ζ : Xz} {K : PySem.W.Frag} {Γ : Sl} {te ta tb : TE} {k k' : D → Prop} {d x y : D} {ds : List D}
theorem E.n (h : E ζ.K Γ te d) (hk : k d) : EN ζ Γ te k := fun I σ H as e l _ Q q => h I σ H as e l Q fun I' H' v g r => q I' H' v d hk g r
theorem EN.imp (h : EN ζ Γ te k) (hk : ∀ d, k d → k' d) : EN ζ Γ te k' := fun I σ H as e l zz Q q => h I σ H as e l zz Q fun I' H' v d hd g r => q I' H' v d (hk d hd) g r
theorem EN.e (h : EN (zNo K) Γ te (fun x => x = d)) : E K Γ te d := fun I σ H as e l Q q => h I σ H as e l XOk.no Q fun I' H' v x hx g r => by subst hx; exact q I' H' v g r
theorem T.n {tt : TT} {b : Bool} {k : Bool → Prop} (h : T ζ.K Γ tt b) (hk : k b) : TN ζ Γ tt k := fun I σ H as e l _ Q q => h I σ H as e l Q fun I' H' g => q I' H' b hk g
theorem TN.t {tt : TT} {b : Bool} (h : TN (zNo K) Γ tt (fun x => x = b)) : T K Γ tt b := fun I σ H as e l Q q => h I σ H as e l XOk.no Q fun I' H' x hx g => by subst hx; exact q I' H' g
theorem C.n {k : List D → Prop} (h : C ζ.K Γ te ds) (hk : k ds) : CN ζ Γ te k := fun I σ H as e l _ Q q => h I σ H as e l Q fun I' H' a vs g hs r => q I' H' a vs ds hk g hs r
theorem Src.n {wi : TI} {k : List D → Prop} (h : Src ζ.K Γ wi ds) (hk : k ds) : SN ζ Γ wi k := fun I σ H as e l _ Q q => h I σ H as e l Q fun I' H' J g w => q I' H' J ds hk g w
theorem en_var {i : Nat} (h : Γ[i]? = some (some (.im d))) (hk : k d) : EN ζ Γ (tVar i) k := (e_var h).n hk
theorem en_int {i : Int} (hk : k (.int i)) : EN ζ Γ (tC (.int i)) k := e_int.n hk
theorem en_str {i : Str} (hk : k (.str i)) : EN ζ Γ (tC (.str i)) k := e_str.n hk
theorem en_bl {i : Bool} (hk : k (.bl i)) : EN ζ Γ (tC (.bl i)) k := e_bl.n hk
theorem en_non (hk : k .non) : EN ζ Γ (tC .non) k := e_non.n hk
theorem en_ty {n : String} (hk : k (.ty n)) : EN ζ Γ (tC (.ty n)) k := e_ty.n hk
/-- a value that stands -/
theorem en_const {v : V} (h : ∀ I, Rp ζ.K I v d) (hk : k d) : EN ζ Γ (tC v) k := fun I σ H as e l zz Q q => q I H v d hk (Gr.refl e) (h I)
theorem en_op {r : R2} (h : EN ζ Γ ta fun x => EN ζ Γ tb fun y => ∃ d, Bin ζ.K r x y d ∧ k d) : EN ζ Γ (tOp r ta tb) k := fun I σ H as e l zz Q q =>
  h I σ H as e l zz _ fun I1 H1 v x h1 g1 r1 => h1 I1 σ H1 as g1.ih (l.mono g1) (zz.mono g1) _ fun I2 H2 w y h2 g2 r2 => by
    obtain ⟨d, hb, hk⟩ := h2
    exact hb I2 H2 v w g2.ih (r1.mono g2.i) r2 Q fun I3 H3 z g3 r3 => q I3 H3 z d hk ((g1.trans g2).trans g3) r3
theorem en_un {r : V → Hp → VK → Prop} (h : EN ζ Γ ta fun x => ∃ d, Un1 ζ.K r x d ∧ k d) : EN ζ Γ (tUn r ta) k := fun I σ H as e l zz Q q =>
  h I σ H as e l zz _ fun I1 H1 v x h1 g1 r1 => by
    obtain ⟨d, hb, hk⟩ := h1
    exact hb I1 H1 v g1.ih r1 Q fun I3 H3 z g3 r3 => q I3 H3 z d hk (g1.trans g3) r3
theorem ean_nil {k : List D → Prop} (hk : k []) : EAN ζ Γ tNil k := fun I σ H as e _ _ Q q => q I H _ [] hk (Gr.refl e) .nil
theorem ean_cons {k : List D → Prop} {tr : TA} (h : EN ζ Γ ta fun x => EAN ζ Γ tr fun xs => k (x :: xs)) : EAN ζ Γ (tCons ta tr) k := fun I σ H as e l zz Q q =>
  h I σ H as e l zz _ fun I1 H1 v x h1 g1 r1 => h1 I1 σ H1 as g1.ih (l.mono g1) (zz.mono g1) _ fun I2 H2 vs xs h2 g2 r2 => q I2 H2 _ _ h2 (g1.trans g2) (.cons (r1.mono g2.i) r2)
theorem en_cb {r : List V → Hp → VK → Prop} {ta : TA} (h : EAN ζ Γ ta fun xs => ∃ d, Ca ζ.K r xs d ∧ k d) : EN ζ Γ (tCB r ta) k := fun I σ H as e l zz Q q =>
  h I σ H as e l zz _ fun I1 H1 v x h1 g1 r1 => by
    obtain ⟨d, hb, hk⟩ := h1
    exact hb I1 H1 v g1.ih r1 Q fun I3 H3 z g3 r3 => q I3 H3 z d hk (g1.trans g3) r3
theorem EA.n {ta : TA} {k : List D → Prop} (h : EA ζ.K Γ ta ds) (hk : k ds) : EAN ζ Γ ta k := fun I σ H as e l _ Q q => h I σ H as e l Q fun I' H' v g r => q I' H' v ds hk g r
theorem EAN.ea {ta : TA} (h : EAN (zNo K) Γ ta (fun x => x = ds)) : EA K Γ ta ds := fun I σ H as e l Q q => h I σ H as e l XOk.no Q fun I' H' v x hx g r => by subst hx; exact q I' H' v g r
theorem en_tup {ta : TA} (h : EAN ζ Γ ta fun xs => xs.length ≤ sizeLine ∧ k (.tup xs)) : EN ζ Γ (tTup ta) k := fun I σ H as e l zz Q q =>
  h I σ H as e l zz _ fun I1 H1 vs ds h1 g1 r1 => ⟨by rw [r1.length]; exact h1.1, fun p hp => q _ _ _ _ h1.2 (g1.trans (Gr.new g1.ih hp)) (.tup (.inl (.inl upd_same)) (r1.mono (Ex.new (g1.ih.free hp))))⟩
theorem en_lst {ta : TA} (h : EAN ζ Γ ta fun xs => xs.length ≤ sizeLine ∧ k (.lst xs)) : EN ζ Γ (tLst ta) k := fun I σ H as e l zz Q q =>
  h I σ H as e l zz _ fun I1 H1 vs ds h1 g1 r1 => ⟨by rw [r1.length]; exact h1.1, fun p hp => q _ _ _ _ h1.2 (g1.trans (Gr.new g1.ih hp)) (.lst upd_same (r1.mono (Ex.new (g1.ih.free hp))))⟩
theorem en_if {t : TT} (h : TN ζ Γ t fun b => (b = true → EN ζ Γ ta k) ∧ (b = false → EN ζ Γ tb k)) : EN ζ Γ (tIf t ta tb) k := fun I σ H as e l zz Q q =>
  h I σ H as e l zz _ fun I1 H1 b h1 g1 => by
    cases b with
    | true => exact h1.1 rfl I1 σ H1 as g1.ih (l.mono g1) (zz.mono g1) Q fun I2 H2 v d hd g2 r2 => q I2 H2 v d hd (g1.trans g2) r2
    | false => exact h1.2 rfl I1 σ H1 as g1.ih (l.mono g1) (zz.mono g1) Q fun I2 H2 v d hd g2 r2 => q I2 H2 v d hd (g1.trans g2) r2
theorem tn_test {k : Bool → Prop} (h : EN ζ Γ te fun d => ∃ b, d = .bl b ∧ k b) : TN ζ Γ (tTest te) k := fun I σ H as e l zz Q q => h I σ H as e l zz _ fun I1 H1 v d hd g1 r1 => by
  obtain ⟨b, rfl, hk⟩ := hd
  cases r1
  exact ⟨b, rfl, q I1 H1 b hk g1⟩
theorem tn_b {k : Bool → Prop} (h : EN ζ Γ te fun d => ∃ b, d = .bl b ∧ k b) : TN ζ Γ (tB te) k := fun I σ H as e l zz Q q => h I σ H as e l zz _ fun I1 H1 v d hd g1 r1 => by
  obtain ⟨b, rfl, hk⟩ := hd
  cases r1
  exact ⟨b, rfl, q I1 H1 b hk g1⟩
theorem tn_not {k : Bool → Prop} {t : TT} (h : TN ζ Γ t fun b => k (!b)) : TN ζ Γ (tNot t) k := fun I σ H as e l zz Q q => h I σ H as e l zz _ fun I1 H1 b hb g1 => q I1 H1 _ hb g1
theorem tn_and {k : Bool → Prop} {t u : TT} (h : TN ζ Γ t fun a => (a = true → TN ζ Γ u k) ∧ (a = false → k false)) : TN ζ Γ (tAnd t u) k := fun I σ H as e l zz Q q => h I σ H as e l zz _ fun I1 H1 a h1 g1 => by
  cases a with
  | true => exact h1.1 rfl I1 σ H1 as g1.ih (l.mono g1) (zz.mono g1) Q fun I2 H2 b hb g2 => q I2 H2 b hb (g1.trans g2)
  | false => exact q I1 H1 false (h1.2 rfl) g1
theorem tn_or {k : Bool → Prop} {t u : TT} (h : TN ζ Γ t fun a => (a = true → k true) ∧ (a = false → TN ζ Γ u k)) : TN ζ Γ (tOr t u) k := fun I σ H as e l zz Q q => h I σ H as e l zz _ fun I1 H1 a h1 g1 => by
  cases a with
  | true => exact q I1 H1 true (h1.1 rfl) g1
  | false => exact h1.2 rfl I1 σ H1 as g1.ih (l.mono g1) (zz.mono g1) Q fun I2 H2 b hb g2 => q I2 H2 b hb (g1.trans g2)
theorem tn_yes {k : Bool → Prop} (h : k true) : TN ζ Γ tYes k := fun I σ H as e l zz Q q => q I H true h (Gr.refl e)
theorem en_andV (h : EN ζ Γ ta fun x => ∃ a, x = .bl a ∧ (a = true → EN ζ Γ tb k) ∧ (a = false → k (.bl false))) : EN ζ Γ (tAndV ta tb) k := fun I σ H as e l zz Q q => h I σ H as e l zz _ fun I1 H1 v x h1 g1 r1 => by
  obtain ⟨a, rfl, ht, hf⟩ := h1
  cases r1
  refine ⟨a, rfl, ?_⟩
  cases a with
  | true => exact ht rfl I1 σ H1 as g1.ih (l.mono g1) (zz.mono g1) Q fun I2 H2 w d hd g2 r2 => q I2 H2 w d hd (g1.trans g2) r2
  | false => exact q I1 H1 _ _ (hf rfl) g1 (.bl false)
theorem en_orV (h : EN ζ Γ ta fun x => ∃ a, x = .bl a ∧ (a = true → k (.bl true)) ∧ (a = false → EN ζ Γ tb k)) : EN ζ Γ (tOrV ta tb) k := fun I σ H as e l zz Q q => h I σ H as e l zz _ fun I1 H1 v x h1 g1 r1 => by
  obtain ⟨a, rfl, ht, hf⟩ := h1
  cases r1
  refine ⟨a, rfl, ?_⟩
  cases a with
  | true => exact q I1 H1 _ _ (ht rfl) g1 (.bl true)
  | false => exact hf rfl I1 σ H1 as g1.ih (l.mono g1) (zz.mono g1) Q fun I2 H2 w d hd g2 r2 => q I2 H2 w d hd (g1.trans g2) r2
theorem en_notV (h : EN ζ Γ ta fun x => ∃ a, x = .bl a ∧ k (.bl (!a))) : EN ζ Γ (tNotV ta) k := fun I σ H as e l zz Q q => h I σ H as e l zz _ fun I1 H1 v x h1 g1 r1 => by
  obtain ⟨a, rfl, hk⟩ := h1
  cases r1
  exact ⟨a, rfl, q I1 H1 _ _ hk g1 (.bl _)⟩
theorem en_chain {r r' : R2} {tc : TE} (h : EN ζ Γ ta fun x => EN ζ Γ tb fun y => ∃ b, Bin ζ.K r x y (.bl b) ∧ (b = true → EN ζ Γ tc fun z => ∃ d, Bin ζ.K r' y z d ∧ k d) ∧ (b = false → k (.bl false))) : EN ζ Γ (tChain r r' ta tb tc) k := fun I σ H as e l zz Q q =>
  h I σ H as e l zz _ fun I1 H1 u x h1 g1 r1 => h1 I1 σ H1 as g1.ih (l.mono g1) (zz.mono g1) _ fun I2 H2 v y h2 g2 r2 => by
    obtain ⟨b, hb, ht, hf⟩ := h2
    refine hb I2 H2 u v g2.ih (r1.mono g2.i) r2 _ fun I3 H3 w g3 r3 => ?_
    cases r3
    refine ⟨b, rfl, ?_⟩
    have g := (g1.trans g2).trans g3
    cases b with
    | true =>
      refine ht rfl I3 σ H3 as g.ih (l.mono g) (zz.mono g) _ fun I4 H4 w z h4 g4 r4 => ?_
      obtain ⟨d, hd, hk⟩ := h4
      exact hd I4 H4 v w g4.ih (r2.mono (g3.trans g4).i) r4 _ fun I5 H5 x g5 r5 => q I5 H5 x d hk ((g.trans g4).trans g5) r5
    | false => exact q I3 H3 _ _ (hf rfl) g (.bl false)
/-! slices, lists that may change -/
theorem cn_var {i : Nat} {k : List D → Prop} (h : Γ[i]? = some (some (.mu (.lst ds)))) (hk : k ds) : CN ζ Γ (tVar i) k := (c_var h).n hk
theorem cn_e {k : List D → Prop} (h : EN ζ Γ te fun d => ∃ ds, LD d ds ∧ k ds) : CN ζ Γ te k := fun I σ H as e l zz Q q => h I σ H as e l zz _ fun I1 H1 v d hd g r => by
  obtain ⟨ds, hl, hk⟩ := hd
  obtain ⟨a, vs, rfl, hs, hr⟩ := r.l hl
  exact q I1 H1 _ _ _ hk g (ex_l g.ih hs) hr
theorem eon_none {k : Option Int → Prop} (h : k none) : EON ζ Γ tNoPart k := fun I σ H as e l zz Q q => q I H none h (Gr.refl e)
theorem eon_some {k : Option Int → Prop} (h : EN ζ Γ te fun d => ∃ i, d = .int i ∧ k (some i)) : EON ζ Γ (tPart te) k := fun I σ H as e l zz Q q => h I σ H as e l zz _ fun I1 H1 v d hd g1 r1 => by
  obtain ⟨i, rfl, hk⟩ := hd
  cases r1
  exact ⟨i, rfl, q I1 H1 _ hk g1⟩
/-- what a slice gives -/
def SlD : D → Option Int → Option Int → D → Prop
  | .lst ds, lo, hi, d => d = .lst (cutD ds lo hi)
  | .fl ds, lo, hi, d => d = .lst (cutD ds lo hi)
  | .tup ds, lo, hi, d => d = .tup (cutD ds lo hi)
  | .str z, lo, hi, d => d = .str (cutS z lo hi) ∧ z.length ≤ sizeLine
  | _, _, _, _ => False
theorem en_sl {tl th : TO} (h : EN ζ Γ te fun x => EON ζ Γ tl fun lo => EON ζ Γ th fun hi => ∃ d, SlD x lo hi d ∧ k d) : EN ζ Γ (tSl (uSl ζ.K) te tl th) k := fun I σ H as e l zz Q q =>
  h I σ H as e l zz _ fun I1 H1 v x h1 g1 r1 => h1 I1 σ H1 as g1.ih (l.mono g1) (zz.mono g1) _ fun I2 H2 lo h2 g2 => h2 I2 σ H2 as g2.ih (l.mono (g1.trans g2)) (zz.mono (g1.trans g2)) _ fun I3 H3 hi h3 g3 => by
    obtain ⟨d, hs, hk⟩ := h3
    have g := (g1.trans g2).trans g3
    have rr := r1.mono (g2.trans g3).i
    have lists : ∀ ds, LD x ds → d = .lst (cutD ds lo hi) → uSl ζ.K v lo hi H3 Q := fun ds hl hd => by
      obtain ⟨a, vs, rfl, hq, hr⟩ := rr.l hl
      subst hd
      exact .inl ⟨a, vs, rfl, ex_l g.ih hq, fun p hp => q _ _ _ _ hk (g.trans (Gr.new g.ih hp)) (.lst upd_same ((rps_cut hr).mono (Ex.new (g.ih.free hp))))⟩
    cases x with
    | lst ds => exact lists ds .lst hs
    | fl ds => exact lists ds .fl hs
    | tup ds =>
      have hd : d = .tup (cutD ds lo hi) := hs
      subst hd
      cases rr with
      | @tup a vs _ hq hr =>
        refine .inr (.inl ⟨a, vs, rfl, ex_t g.ih hq, fun hw => ?_, fun _ p hp => ?_⟩)
        · have e1 : cutD ds lo hi = ds := by
            unfold cutD
            rw [← hr.length, hw.1, hw.2, List.drop_zero, Nat.sub_zero, hr.length]
            exact List.take_length
          rw [e1] at hk
          exact q I3 H3 _ _ hk g (.tup hq hr)
        · exact q _ _ _ _ hk (g.trans (Gr.new g.ih hp)) (.tup (.inl (.inl upd_same)) ((rps_cut hr).mono (Ex.new (g.ih.free hp))))
    | str z =>
      obtain ⟨hd, hz⟩ := (show d = .str (cutS z lo hi) ∧ z.length ≤ sizeLine from hs)
      subst hd
      cases rr
      exact .inr (.inr ⟨z, rfl, hz, q I3 H3 _ _ hk g (.str _)⟩)
    | _ => exact (show False from hs).elim
theorem en_slC {tl th : TO} (h : CN ζ Γ te fun ds => EON ζ Γ tl fun lo => EON ζ Γ th fun hi => k (.lst (cutD ds lo hi))) : EN ζ Γ (tSl (uSl ζ.K) te tl th) k := fun I σ H as e l zz Q q =>
  h I σ H as e l zz _ fun I1 H1 a vs ds h1 g1 hs r1 => h1 I1 σ H1 as g1.ih (l.mono g1) (zz.mono g1) _ fun I2 H2 lo h2 g2 => h2 I2 σ H2 as g2.ih (l.mono (g1.trans g2)) (zz.mono (g1.trans g2)) _ fun I3 H3 hi h3 g3 => by
    refine .inl ⟨a, vs, rfl, ex_l (g2.trans g3).ex hs, fun p hp => ?_⟩
    have g := (g1.trans g2).trans g3
    exact q _ _ _ _ h3 (g.trans (Gr.new g.ih hp)) (.lst upd_same ((rps_cut (r1.mono (g2.trans g3).i)).mono (Ex.new (g.ih.free hp))))
theorem en_ixC (h : CN ζ Γ ta fun ds => EN ζ Γ tb fun y => ∃ i d, y = .int i ∧ atI ds i = some d ∧ k d) : EN ζ Γ (tOp (rIx ζ.K) ta tb) k := fun I σ H as e l zz Q q =>
  h I σ H as e l zz _ fun I1 H1 a vs ds h1 g1 hs r1 => h1 I1 σ H1 as g1.ih (l.mono g1) (zz.mono g1) _ fun I2 H2 w y h2 g2 r2 => by
    obtain ⟨i, d, rfl, hd, hk⟩ := h2
    cases r2
    obtain ⟨w, hw, rw'⟩ := rps_at r1 hd
    exact .inl ⟨a, vs, i, w, rfl, rfl, ex_l g2.ex hs, hw, q I2 H2 w d hk (g1.trans g2) (rw'.mono g2.i)⟩
theorem en_lenC (h : CN ζ Γ te fun ds => k (.int ds.length)) : EN ζ Γ (tCB (uLen ζ.K) (tCons te tNil)) k := fun I σ H as e l zz Q q =>
  h I σ H as e l zz _ fun I1 H1 a vs ds h1 g1 hs r1 => .inl ⟨_, ds.length, rfl, .inl ⟨vs, hs, r1.length.symm⟩, q I1 H1 _ _ h1 g1 (.int _)⟩
theorem en_listC (h : CN ζ Γ te fun ds => k (.lst ds)) : EN ζ Γ (tCB (rLo ζ.K) (tCons te tNil)) k := fun I σ H as e l zz Q q =>
  h I σ H as e l zz _ fun I1 H1 a vs ds h1 g1 hs r1 => ⟨a, vs, rfl, .inl hs, fun p hp => q _ _ _ _ h1 (g1.trans (Gr.new g1.ih hp)) (.lst upd_same (r1.mono (Ex.new (g1.ih.free hp))))⟩
theorem en_tupC (h : CN ζ Γ te fun ds => k (.tup ds)) : EN ζ Γ (tCB (rTo ζ.K) (tCons te tNil)) k := fun I σ H as e l zz Q q =>
  h I σ H as e l zz _ fun I1 H1 a vs ds h1 g1 hs r1 => ⟨a, vs, rfl, .inl ⟨hs, fun p hp => q _ _ _ _ h1 (g1.trans (Gr.new g1.ih hp)) (.tup (.inl (.inl upd_same)) (r1.mono (Ex.new (g1.ih.free hp))))⟩⟩
theorem en_join {to : TE} (h : EN ζ Γ to fun x => ∃ a : Str, x = .str a ∧ CN ζ Γ te fun ds => ∃ (ys : List Str), ds = ys.map D.str ∧ (ys.map (·.length)).sum + ys.length * a.length ≤ 16777216 ∧ k (.str (Txt.join a ys))) : EN ζ Γ (tM1 (rJoin ζ.K) to te) k := fun I σ H as e l zz Q q =>
  h I σ H as e l zz _ fun I1 H1 v x h1 g1 r1 => by
    obtain ⟨a, rfl, h1⟩ := h1
    cases r1
    refine ⟨⟨a, rfl⟩, h1 I1 σ H1 as g1.ih (l.mono g1) (zz.mono g1) _ fun I2 H2 p vs ds h2 g2 hs r2 => ?_⟩
    obtain ⟨ys, rfl, hl, hk⟩ := h2
    rw [rps_strs r2] at hs
    exact ⟨a, p, ys, rfl, rfl, .inl hs, hl, q I2 H2 _ _ hk (g1.trans g2) (.str _)⟩
/-! calls -/
theorem en_callR {R : List D → D → Prop} {EE : XK} {ta : TA} (h : EAN ζ Γ ta fun ds => ∃ d, R ds d ∧ k d) : EN ζ Γ (tCall (spR ζ.K R) [] EE ta) k := fun I σ H as e l zz Q q =>
  h I σ H as e l zz _ fun I1 H1 vs ds h1 g1 r1 => by
    obtain ⟨d, hr, hk⟩ := h1
    exact ⟨I1, ds, d, g1.ih, by rw [List.append_nil]; exact r1, hr, fun I2 H2 v g2 r2 => q I2 H2 v d hk (g1.trans g2) r2⟩
/-- the promise of a def that raises nothing and changes nothing: R arguments result, any such result -/
def spN (K : PySem.W.Frag) (R : List D → D → Prop) : Sp := fun vs H Q _ => ∃ (I : Hp) (ds : List D), Ex I H ∧ Rps K I vs ds ∧ (∃ d, R ds d) ∧ ∀ I' H' v d, R ds d → Gr [] I H I' H' → Rp K I' v d → Q v H'
theorem en_callN {R : List D → D → Prop} {EE : XK} {ta : TA} (h : EAN ζ Γ ta fun ds => (∃ d, R ds d) ∧ ∀ d, R ds d → k d) : EN ζ Γ (tCall (spN ζ.K R) [] EE ta) k := fun I σ H as e l zz Q q =>
  h I σ H as e l zz _ fun I1 H1 vs ds h1 g1 r1 => by
    obtain ⟨hr, hk⟩ := h1
    exact ⟨I1, ds, g1.ih, by rw [List.append_nil]; exact r1, hr, fun I2 H2 v d hd g2 r2 => q I2 H2 v d (hk d hd) (g1.trans g2) r2⟩
/-! what is walked -/
theorem isw_l {v : V} {I I' H' : Hp} {ds : List D} (r : Rp ζ.K I' v d) (hl : LD d ds) : ∃ a vs, v = .ref a ∧ SqL ζ.K I' a vs ∧ IsW ζ.K I' (Itl ζ.K a) ds := by
  obtain ⟨a, vs, rfl, hs, hr⟩ := r.l hl
  exact ⟨a, vs, rfl, hs, isw_at walk_list (fun I2 H2 e1 e2 => ex_l (e1.trans e2) hs) hr⟩
theorem sn_l {w : TI} {kk : List D → Prop} (h : EN ζ Γ te fun d => ∃ ds, LD d ds ∧ kk ds) : SN ζ Γ (fun σ H R => iList ζ.K te σ H R ∨ w σ H R) kk := fun I σ H as e l zz R q => .inl (h I σ H as e l zz _ fun I1 H1 v d hd g r => by
  obtain ⟨ds, hl, hk⟩ := hd
  obtain ⟨a, vs, rfl, hs, hw⟩ := isw_l (I := I) (H' := H1) r hl
  exact ⟨a, rfl, ⟨_, ex_l g.ih hs⟩, q I1 H1 _ ds hk g hw⟩)
theorem sn_t {w w' : TI} {kk : List D → Prop} (h : EN ζ Γ te fun d => ∃ ds, d = .tup ds ∧ kk ds) : SN ζ Γ (fun σ H R => w σ H R ∨ (fun σ H R => iTup ζ.K te σ H R ∨ w' σ H R) σ H R) kk := fun I σ H as e l zz R q => .inr (.inl (h I σ H as e l zz _ fun I1 H1 v d hd g r => by
  obtain ⟨ds, rfl, hk⟩ := hd
  cases r with
  | tup hs hr => exact ⟨_, rfl, ⟨_, ex_t g.ih hs⟩, q I1 H1 _ ds hk g (isw_at walk_tup (fun I2 H2 e1 e2 => ex_t (e1.trans e2) hs) hr)⟩))
theorem isw_s {I : Hp} {z : Str} : IsW ζ.K I (Its z) (z.cps.toList.map fun c => .str ⟨#[c]⟩) := by
  refine ⟨fun _ => True, _, by rw [List.length_map, Array.length_toList]; exact walk_str, fun _ _ _ _ => trivial, ?_⟩
  rintro i H x H' I2 hi ⟨rfl, c, hc, rfl⟩ e1 e2
  refine ⟨I2, .str ⟨#[c]⟩, Gr.refl e2, ?_, .str _⟩
  rw [List.getElem?_map, Array.getElem?_toList, hc]
  rfl
theorem sn_s {w w' : TI} {kk : List D → Prop} (h : EN ζ Γ te fun d => ∃ z : Str, d = .str z ∧ kk (z.cps.toList.map fun c => .str ⟨#[c]⟩)) : SN ζ Γ (fun σ H R => w σ H R ∨ (fun σ H R => w' σ H R ∨ iStr te σ H R) σ H R) kk := fun I σ H as e l zz R q => .inr (.inr (h I σ H as e l zz _ fun I1 H1 v d hd g r => by
  obtain ⟨z, rfl, hk⟩ := hd
  cases r
  exact ⟨z, rfl, q I1 H1 _ _ hk g isw_s⟩))
theorem sn_rng1 {ta : TA} {kk : List D → Prop} (h : EAN ζ Γ ta fun xs => ∃ n : Int, xs = [.int n] ∧ -(2 ^ 62) ≤ n ∧ n < 2 ^ 62 ∧ kk ((List.range n.toNat).map fun (i : Nat) => D.int (i : Int))) : SN ζ Γ (iRng1 ta) kk := fun I σ H as e l zz R q => h I σ H as e l zz _ fun I1 H1 v d hd g r => by
  obtain ⟨n, rfl, h0, h1, hk⟩ := hd
  cases r with
  | cons a b =>
    cases a; cases b
    refine ⟨n, rfl, h0, h1, q I1 H1 _ _ hk g ?_⟩
    have := isw_rng (K := ζ.K) (I := I1) (lo := 0) (n := n.toNat)
    simpa using this
theorem sn_rng2 {ta : TA} {kk : List D → Prop} (h : EAN ζ Γ ta fun xs => ∃ m n : Int, xs = [.int m, .int n] ∧ (-(2 ^ 62) ≤ m ∧ m < 2 ^ 62 ∧ -(2 ^ 62) ≤ n ∧ n < 2 ^ 62) ∧ kk ((List.range (n - m).toNat).map fun (i : Nat) => D.int (m + (i : Int)))) : SN ζ Γ (iRng2 ta) kk := fun I σ H as e l zz R q => h I σ H as e l zz _ fun I1 H1 v d hd g r => by
  obtain ⟨m, n, rfl, h0, hk⟩ := hd
  cases r with
  | cons a b =>
    cases a
    cases b with
    | cons a b =>
      cases a; cases b
      exact ⟨m, n, rfl, h0, q I1 H1 _ _ hk g isw_rng⟩
theorem sn_enum {ta : TA} {kk : List D → Prop} (h : EAN ζ Γ ta fun xs => ∃ d ds, xs = [d] ∧ LD d ds ∧ kk (enumD ds)) : SN ζ Γ (iEnum ζ.K ta) kk := fun I σ H as e l zz R q => h I σ H as e l zz _ fun I1 H1 v d hd g r => by
  obtain ⟨d, ds, rfl, hl, hk⟩ := hd
  cases r with
  | cons a b =>
    cases b
    obtain ⟨a', vs, rfl, hs, hr⟩ := a.l hl
    refine ⟨_, _, rfl, ex_l g.ih hs, q I1 H1 _ _ hk g (isw_pair walk_enum ?_ (fun I2 H2 e1 e2 => ex_l (e1.trans e2) hs) ?_)⟩
    · rw [enumD, List.length_mapIdx, hr.length]
    · intro i x y hi h1 h2
      obtain ⟨d, hd, rd⟩ := hr.getV h2
      refine ⟨.int i, d, ?_, ?_, rd⟩
      · rw [enumD, List.getElem?_mapIdx, hd]; rfl
      · cases h1; exact .int _
end
/-! ### statements -/
theorem EndsOk.xok {c : Cz} {lb I H : Hp} {κ : Ks} {De : Ends} {σ : St} {as : Nat → Addr} {Γ : Sl} (q : EndsOk c lb κ De) (e : Ex lb I) (a : At c I σ H as Γ) : XOk ⟨c.K, c.W, κ.ex Γ⟩ I H σ := fun I' H' C ns ds dx hx g hd =>
  q.ex I' σ H' as Γ C ns ds dx hx (e.trans g.i) (a.mono g) (hd.back a.gr.th)
section
variable {c : Cz} {Γ Γ' : Sl} {κ : Ks} {te : TE} {t u ts : TS} {d : D} {ds : List D}
theorem bn_set {i : Nat} (h : EN ⟨c.K, c.W, κ.ex Γ⟩ Γ te fun d => κ.nx (Γ.set i (some (.im d)))) : B c Γ (tAsg te (gName i)) κ := fun lb I σ H as De e a q =>
  h I σ H as a.gr.ih a.lo (q.xok e a) _ fun I1 H1 v d k g r => q.nx _ _ _ _ _ k (e.trans g.i) ((a.mono g).set r)
theorem bn_asg {g : TG} (h : EN ⟨c.K, c.W, κ.ex Γ⟩ Γ te fun d => ∃ ws Γ1, Tgt c.K g d ws Γ Γ1 ∧ κ.nx Γ1) : B c Γ (tAsg te g) κ := fun lb I σ H as De e a q =>
  h I σ H as a.gr.ih a.lo (q.xok e a) _ fun I1 H1 v d k gg r => by
    obtain ⟨ws, Γ1, tg, hk⟩ := k
    have a1 := a.mono gg
    exact tg.run I1 σ H1 as v gg.ih a1.lo r _ fun σ' lo' _ _ => q.nx _ _ _ _ _ hk (e.trans gg.i) ⟨a1.gr, lo', fun j d h => a1.ok j d (tg.sub j d h), a1.fix⟩
theorem bn_drop (h : EN ⟨c.K, c.W, κ.ex Γ⟩ Γ te fun _ => κ.nx Γ) : B c Γ (tDrop te) κ := fun lb I σ H as De e a q =>
  h I σ H as a.gr.ih a.lo (q.xok e a) _ fun I1 H1 v d k g r => q.nx _ _ _ _ _ k (e.trans g.i) (a.mono g)
theorem bn_ret (h : EN ⟨c.K, c.W, κ.ex Γ⟩ Γ te fun d => κ.rt d Γ) : B c Γ (tRet te) κ := fun lb I σ H as De e a q =>
  h I σ H as a.gr.ih a.lo (q.xok e a) _ fun I1 H1 v d k g r => q.rt _ _ _ _ _ k (e.trans g.i) (a.mono g).gr r fun p hp e1 he => by
    obtain ⟨_, _, o, ho, r1⟩ := (a.mono g).lo.at_ _ _ he
    rw [a.fix p hp] at ho
    exact ⟨o, ho, r1⟩
theorem bn_if {tc : TT} (h : TN ⟨c.K, c.W, κ.ex Γ⟩ Γ tc fun b => (b = true → B c Γ t κ) ∧ (b = false → B c Γ u κ)) : B c Γ (tIfS tc t u) κ := fun lb I σ H as De e a q =>
  h I σ H as a.gr.ih a.lo (q.xok e a) _ fun I1 H1 b hb g => by
    cases b with
    | true => exact hb.1 rfl lb I1 σ H1 as De (e.trans g.i) (a.mono g) q
    | false => exact hb.2 rfl lb I1 σ H1 as De (e.trans g.i) (a.mono g) q
theorem bn_new {i : Nat} {ta : TA} (hm : ∀ p ∈ c.m, p.1 ≠ i) (h : EAN ⟨c.K, c.W, κ.ex Γ⟩ Γ ta fun ds => ds.length ≤ sizeLine ∧ κ.nx (Γ.set i (some (.mu (.lst ds))))) : B c Γ (tAsg (tLst ta) (gName i)) κ := fun lb I σ H as De e a q =>
  h I σ H as a.gr.ih a.lo (q.xok e a) _ fun I1 H1 vs ds hk g r => by
    refine ⟨by rw [r.length]; exact hk.1, fun p hp => ?_⟩
    have a1 := a.mono g
    refine q.nx I1 _ _ (updA as i p) _ hk.2 (e.trans g.i) ⟨a1.gr.trans (Gr.junk a1.gr.ih hp), a1.lo.setNew a1.gr.ih hp (.lst r), fun j e1 h1 => ?_, fun p' hp' => by rw [updA_ne (hm p' hp')]; exact a1.fix p' hp'⟩
    rcases set_get h1 with ⟨rfl, _⟩ | ⟨ne, h'⟩
    · rw [updA_same]
      left
      cases z : c.H p with
      | none => rfl
      | some o => exact absurd hp (a1.gr.th p (by rw [z]; exact nofun))
    · rw [updA_ne ne]; exact a1.ok j e1 h'
theorem bn_append {i : Nat} (hi : Γ[i]? = some (some (.mu (.lst ds)))) (hl : ds.length < sizeLine) (h : EN ⟨c.K, c.W, κ.ex Γ⟩ Γ te fun d => κ.nx (Γ.set i (some (.mu (.lst (ds ++ [d])))))) : B c Γ (tDrop (tBM c.K "list" rAppend (tVar i) (tCons te tNil))) κ := fun lb I σ H as De e a q => by
  obtain ⟨hv, hn, o, ho, r⟩ := a.lo.at_ i _ hi
  cases r with
  | lst r =>
    refine ⟨_, hv, .inl ⟨rfl, _, SqL.of ho⟩, ?_⟩
    refine h I σ H as a.gr.ih a.lo (q.xok e a) _ fun I1 H1 v d hk g r1 => ?_
    have ho1 := g.ex _ _ ho
    refine ⟨_, _, _, rfl, rfl, ho1, by rw [r.length]; exact hl, ?_⟩
    exact q.nx I1 _ _ as _ hk (e.trans g.i) ((a.mono g).put hi (.lst ((r.mono g.i).append (.one r1))))
/-- how a loop over xs is shown -/
inductive Loop (c : Cz) (Γ : Sl) (g : TG) (tb : TS) (κ : Ks) (xs : List D) : Prop
  | mk {S : Type} (R : Nat → S → Prop) (Γf : S → Sl) (s0 : S) (h0 : R 0 s0) (l0 : Le (Γf s0) Γ)
    (ht : ∀ i s d, xs[i]? = some d → R i s → ∃ ws Γ1, Tgt c.K g d ws (Γf s) Γ1 ∧ B c Γ1 tb ⟨fun Γ' => ∃ s', R (i + 1) s' ∧ Le (Γf s') Γ', κ.rt, κ.nx, fun Γ' => ∃ s', R (i + 1) s' ∧ Le (Γf s') Γ', κ.ex⟩)
    (hd : ∀ s, R xs.length s → κ.nx (Γf s)) : Loop c Γ g tb κ xs
theorem bn_for {wi : TI} {g : TG} {tb : TS} (h : SN ⟨c.K, c.W, κ.ex Γ⟩ Γ wi (Loop c Γ g tb κ)) : B c Γ (tFor wi g tb) κ := fun lb I σ H as De e a k =>
  h I σ H as a.gr.ih a.lo (k.xok e a) _ fun I1 H1 J xs hx g1 hw => by
    obtain ⟨R, Γf, s0, h0, l0, ht, hd⟩ := hx
    obtain ⟨Gc, Y, w, hg, hy⟩ := hw
    refine for_it (g := g) (tb := tb) (D := De) w (fun i σ H => ∃ I as s, R i s ∧ Ex I1 I ∧ At c I σ H as (Γf s)) ⟨I1, as, s0, h0, Ex.refl _, (a.mono g1).weak l0⟩ (fun i σ H _ ⟨I, as, s, _, e1, a1⟩ => hg I H e1 a1.gr.ih) ?_ ?_
    · rintro i x σ H H' hi ⟨I, as, s, r, e1, a1⟩ y
      obtain ⟨I2, d, g2, hd2, rx⟩ := hy i H x H' I hi y e1 a1.gr.ih
      obtain ⟨ws, Γ1, tg, hb⟩ := ht i s d hd2 r
      have a2 := a1.mono g2
      refine tg.run I2 σ H' as x g2.ih a2.lo rx _ fun σ' lo' _ _ => ?_
      have e3 : Ex I1 I2 := e1.trans g2.i
      have e0 : Ex lb I1 := e.trans g1.i
      exact hb I1 I2 σ' H' as _ e3 ⟨a2.gr, lo', fun j d h => a2.ok j d (tg.sub j d h), a2.fix⟩ ⟨fun I3 σ3 H3 as3 Γ3 ⟨s', r', le⟩ e4 a4 => ⟨I3, as3, s', r', e4, a4.weak le⟩,
        fun I3 H3 Γ3 v d hr e4 => k.rt I3 H3 Γ3 v d hr (e0.trans e4), fun I3 σ3 H3 as3 Γ3 hb e4 a4 => k.nx I3 σ3 H3 as3 Γ3 hb (e0.trans e4) a4, fun I3 σ3 H3 as3 Γ3 ⟨s', r', le⟩ e4 a4 => ⟨I3, as3, s', r', e4, a4.weak le⟩, fun I3 σ3 H3 as3 Γ3 C ns ds dx hx e4 => k.ex I3 σ3 H3 as3 Γ3 C ns ds dx hx (e0.trans e4)⟩
    · rintro σ H ⟨I, as, s, r, e1, a1⟩
      exact k.nx I σ H as _ (hd s r) ((e.trans g1.i).trans e1) a1
theorem Loop.fold {α : Type} {xs : List α} {em : α → D} {g : TG} {tb : TS} {S : Type} (step : S → α → S) (P : Nat → S → Prop) (Γf : S → Sl) (s0 : S) (h0 : P 0 s0) (l0 : Le (Γf s0) Γ) (hP : ∀ (i : Nat) (s : S) (x : α), xs[i]? = some x → P i s → P (i + 1) (step s x))
    (ht : ∀ (i : Nat) (s : S) (x : α), xs[i]? = some x → P i s → ∃ ws Γ1, Tgt c.K g (em x) ws (Γf s) Γ1 ∧ B c Γ1 tb ⟨fun Γ' => Le (Γf (step s x)) Γ', κ.rt, fun _ => False, fun Γ' => Le (Γf (step s x)) Γ', κ.ex⟩)
    (hd : P xs.length (xs.foldl step s0) → κ.nx (Γf (xs.foldl step s0))) : Loop c Γ g tb κ (xs.map em) := by
  refine .mk (fun i s => s = (xs.take i).foldl step s0 ∧ P i s) Γf s0 ⟨rfl, h0⟩ l0 ?_ ?_
  · rintro i s d hd ⟨e, p⟩
    rw [List.getElem?_map] at hd
    obtain ⟨x, hx⟩ : ∃ x, xs[i]? = some x := by
      cases hx : xs[i]? with
      | none => rw [hx] at hd; cases hd
      | some x => exact ⟨x, rfl⟩
    rw [hx] at hd
    cases hd
    obtain ⟨ws, Γ1, tg, hb⟩ := ht i s x hx p
    have e2 : step s x = (xs.take (i + 1)).foldl step s0 := by
      rw [List.take_add_one, hx, List.foldl_append, ← e]; rfl
    exact ⟨ws, Γ1, tg, b_ks hb (fun Γ' h => ⟨_, ⟨e2, hP i s x hx p⟩, h⟩) (fun _ _ h => h) (fun _ h => h.elim) (fun Γ' h => ⟨_, ⟨e2, hP i s x hx p⟩, h⟩)⟩
  · rintro s ⟨e, p⟩
    rw [List.length_map] at e p
    rw [List.take_length] at e
    subst e
    exact hd p
/-- a loop that only looks -/
theorem Loop.look {xs : List D} {g : TG} {tb : TS} (P : Nat → Prop) (Γf : Sl) (h0 : P 0) (l0 : Le Γf Γ)
    (ht : ∀ (i : Nat) (d : D), xs[i]? = some d → P i → ∃ ws Γ1, Tgt c.K g d ws Γf Γ1 ∧ B c Γ1 tb ⟨fun Γ' => P (i + 1) ∧ Le Γf Γ', κ.rt, κ.nx, fun Γ' => P (i + 1) ∧ Le Γf Γ', κ.ex⟩)
    (hd : P xs.length → κ.nx Γf) : Loop c Γ g tb κ xs := by
  refine .mk (fun i (_ : Unit) => P i) (fun _ => Γf) () h0 l0 ?_ ?_
  · rintro i s d hd p
    obtain ⟨ws, Γ1, tg, hb⟩ := ht i d hd p
    exact ⟨ws, Γ1, tg, b_ks hb (fun Γ' h => ⟨(), h.1, h.2⟩) (fun _ _ h => h) (fun _ h => h) (fun Γ' h => ⟨(), h.1, h.2⟩)⟩
  · rintro s p
    exact hd p
end
/-! ### comprehensions -/
section
variable {K : PySem.W.Frag} {Γ : Sl}
/-- item by item -/
inductive Each {α β : Type} (P : α → β → Prop) : List α → List β → Prop
  | nil : Each P [] []
  | cons {a : α} {b : β} {as : List α} {bs : List β} : P a b → Each P as bs → Each P (a :: as) (b :: bs)
theorem Each.length {α β : Type} {P : α → β → Prop} : ∀ {as : List α} {bs : List β}, Each P as bs → as.length = bs.length
  | _, _, .nil => rfl
  | _, _, .cons _ r => congrArg (· + 1) r.length
theorem Each.snoc {α β : Type} {P : α → β → Prop} {a : α} {b : β} (h : P a b) : ∀ {as : List α} {bs : List β}, Each P as bs → Each P (as ++ [a]) (bs ++ [b])
  | _, _, .nil => .cons h .nil
  | _, _, .cons q r => .cons q (Each.snoc h r)
theorem Each.mem {α β : Type} {P : α → β → Prop} : ∀ {as : List α} {bs : List β}, Each P as bs → ∀ b ∈ bs, ∃ a ∈ as, P a b
  | _, _, .cons q r, b, h => by
    rcases List.mem_cons.mp h with rfl | h
    · exact ⟨_, List.mem_cons_self, q⟩
    · obtain ⟨a, ha, hp⟩ := r.mem b h
      exact ⟨a, List.mem_cons_of_mem _ ha, hp⟩
theorem Each.map {α β : Type} {f : α → β} : ∀ {as : List α} {bs : List β}, Each (fun a b => b = f a) as bs → bs = as.map f
  | _, _, .nil => rfl
  | _, _, .cons q r => by rw [q, r.map]; rfl
theorem Each.get {α β : Type} {P : α → β → Prop} : ∀ {as : List α} {bs : List β} {i : Nat} {b : β}, Each P as bs → bs[i]? = some b → ∃ a, as[i]? = some a ∧ P a b
  | _, _, 0, _, .cons q _, h => by simp at h; subst h; exact ⟨_, rfl, q⟩
  | _, _, i + 1, _, .cons _ r, h => by
    obtain ⟨a, ha, hp⟩ := r.get (i := i) (by simpa using h)
    exact ⟨a, by simpa using ha, hp⟩
/-- [te for g in wi if tt]: the test by p, the items by P -/
theorem en_lc {ζ : Xz} {k : D → Prop} {wi : TI} {g : TG} {tt : TT} {te : TE} {vs : List Nat} (h : SN ζ Γ wi fun xs => xs.length ≤ 10000000 ∧ ∃ (p : D → Bool) (P : D → D → Prop),
    (∀ (i : Nat) (x : D), xs[i]? = some x → ∃ ws Γ1, Tgt ζ.K g x ws (wipeG Γ vs) Γ1 ∧ (∀ j ∈ ws, j ∈ vs) ∧ TN (zNo ζ.K) Γ1 tt fun b => b = p x ∧ (b = true → EN (zNo ζ.K) Γ1 te (P x))) ∧ ∀ ys, Each P (xs.filter p) ys → k (.lst ys)) : EN ζ Γ (tLc wi g tt te vs) k := fun I σ H as e l zz Q q =>
  h I σ H as e l zz _ fun I1 H1 J xs hx g1 hw => fun Dd hD => by
    obtain ⟨hl, p, P, ht, hk⟩ := hx
    obtain ⟨Gc, Y, w, hg, hy⟩ := hw
    have fresh1 : I1 Dd = none := g1.ih.free hD
    refine lc_it (Qd := fun H => Q (.ref Dd) H) w (fun i H => ∃ I' acc ys, Gr [] I1 H1 I' H ∧ I' Dd = none ∧ H Dd = some (.lst acc) ∧ Rps ζ.K I' acc ys ∧ Each P ((xs.take i).filter p) ys ∧ Lo ζ.K I' σ H as Γ)
      ⟨I1, [], [], Gr.junk g1.ih hD, fresh1, upd_same, .nil, by simp; exact .nil, (l.mono g1).mono (Gr.junk g1.ih hD)⟩ (fun i H _ ⟨I', acc, _, g2, _⟩ => hg I' H g2.i g2.ih) ?_ ?_
    · rintro i v H2 H3 hi ⟨I2, acc, ys, g2, n2, a2, r2, ea, l2⟩ y
      obtain ⟨I3, x, g3, hx, rx⟩ := hy i H2 v H3 I2 hi y g2.i g2.ih
      obtain ⟨ws, Γ1, tg, hws, t1⟩ := ht i x hx
      have nn : H2 Dd ≠ none := by rw [a2]; exact nofun
      refine tg.run I3 (wipe σ vs) H3 as v g3.ih ((l2.mono g3).wipe vs) rx _ fun σ' l' k' n' => ⟨wipe_eq k' n' hws, ?_⟩
      refine t1 I3 σ' H3 as g3.ih l' XOk.no _ fun I4 H4 b hb g4 => ?_
      obtain ⟨hb1, t2⟩ := hb
      have g34 := g3.trans g4
      have htake : xs.take (i + 1) = xs.take i ++ [x] := by rw [List.take_add_one, hx]; rfl
      have hlen : ((xs.take i).filter p).length ≤ xs.length := Nat.le_trans (List.length_filter_le _ _) (by rw [List.length_take]; omega)
      cases b with
      | true =>
        rw [if_pos rfl]
        refine t2 rfl I4 σ' H4 as g4.ih (l'.mono g4) XOk.no _ fun I5 H5 z d hd g5 r5 => ?_
        have g345 := g34.trans g5
        refine ⟨acc, g345.ex _ _ a2, ?_, I5, _, ys ++ [d], (g2.trans g345).mut (g345.none_i n2 nn) (.inl hD), g345.none_i n2 nn, upd_same, (r2.mono g345.i).append (.one r5), ?_, ?_⟩
        · rw [r2.length, ← ea.length, sizeLine_eq]; omega
        · rw [htake, List.filter_append]
          have : [x].filter p = [x] := by simp [← hb1]
          rw [this]
          exact ea.snoc hd
        · refine ⟨fun j s hj => ?_, l2.ne, l2.len⟩
          have q1 := (l2.mono g345).at_ j s hj
          cases s with
          | im d => exact q1
          | mu d =>
            obtain ⟨e1, n1, o1, r1, r3⟩ := q1
            refine ⟨e1, n1, o1, ?_, r3⟩
            have : as j ≠ Dd := fun z => by
              obtain ⟨_, _, o, ho, _⟩ := l.at_ j _ hj
              rw [z] at ho
              rw [g1.ex _ _ ho] at hD
              cases hD
            rw [upd_ne this]; exact r1
      | false =>
        rw [if_neg Bool.false_ne_true]
        refine ⟨I4, acc, ys, g2.trans g34, g34.none_i n2 nn, g34.ex _ _ a2, r2.mono g34.i, ?_, l2.mono g34⟩
        rw [htake, List.filter_append]
        have : [x].filter p = [] := by simp [← hb1]
        rw [this, List.append_nil]
        exact ea
    · rintro H2 ⟨I2, acc, ys, g2, n2, a2, r2, ea, _⟩
      rw [List.take_of_length_le (Nat.le_refl _)] at ea
      have g12 := g1.trans g2
      have hH : H Dd = none := g1.ex.free hD
      refine q _ _ _ _ (hk ys ea) (g12.frz n2 hH a2) (.lst upd_same (r2.mono (Ex.new n2)))
end
/-! ### defs whose result is told by a relation alone -/
theorem ok_ofN {P : Program} {w : World} {K : PySem.W.Frag} {mg : Str → Option Value} {base : Heap} {x qual : Str} {st : Stmt} {f : Addr} {fd : FuncData} {N ps : List Str} {k : Nat} {R : List D → D → Prop} (F : Fun K x qual st f fd) (S : FnScope N ps (defScope st)) (hn : ∀ ds d, R ds d → ds.length = ps.length)
    (hb : ∀ (cdv : Value) (A : Around) (outer : List Env) (s : Shared) (H : Hp) (E : XK), Room k (A.deeper (PyProof.Rows.envOfC qual (defScope st) s.heap.objs.size f cdv)) →
      ∃ t, PSs (cxOf CX0 P w K mg base N qual (defScope st) f cdv A outer s H E).nox (defBody st) t ∧ ∀ (I H' : Hp) ds d, R ds d → B ⟨K, I, H', [], fun _ _ _ _ => False⟩ (slots N ds) t { nx := fun _ => R ds .non, rt := fun e _ => R ds e }) :
    FnOk P w K mg base CX0 (k + 1) f fd ps (spN K R) := by
  refine F.ok S (fun vs H Q E h => ?_) (fun cdv A outer s H vs Q E hr h => ?_)
  · obtain ⟨I, ds, _, r, ⟨d, hR⟩, _⟩ := h
    rw [r.length]; exact hn ds d hR
  · obtain ⟨I, ds, e, r, ⟨d, hR⟩, q⟩ := h
    obtain ⟨t, ht, hB⟩ := hb cdv A outer s H E hr
    have nomu : ∀ (i : Nat) (d : D), (slots N ds)[i]? ≠ some (some (SV.mu d)) := fun i d h => by
      obtain ⟨h1, _⟩ := (lo_start (N := N) (H := H) r).at_ i _ h
      unfold slots at h
      rw [List.getElem?_append] at h
      split at h
      · rw [List.getElem?_map] at h
        cases q : ds[i]? with
        | none => rw [q] at h; cases h
        | some x => rw [q] at h; cases h
      · obtain ⟨a, b⟩ := List.getElem?_eq_some_iff.mp h
        rw [List.getElem_replicate] at b
        cases b
    exact ⟨t, ht, hB I H ds d hR I I _ H (fun _ => 0) _ (Ex.refl _) ⟨Gr.refl e, lo_start r, fun i d h => absurd h (nomu i d), fun p hp => nomatch hp⟩
      ⟨fun I1 σ1 H1 as Γ1 h1 _ a1 => q I1 H1 .non _ h1 a1.gr .non, fun I1 H1 Γ1 v e1 h1 _ g1 r1 _ => q I1 H1 v _ h1 g1 r1, fun _ _ _ _ _ h => h.elim, fun _ _ _ _ _ h => h.elim, fun _ _ _ _ _ _ _ _ _ h => h.elim⟩⟩
structure CalleeN (P : Program) (w : World) (K : PySem.W.Frag) (mg : Str → Option Value) (base : Heap) (x : Str) (k : Nat) (ps : List Str) (R : List D → D → Prop) : Prop where
  ex : ∃ f fd, FnOk P w K mg base CX0 k f fd ps (spN K R) ∧ mg x = some (.ref f) ∧ PySem.W.keepIn K (.ref f) = true ∧ Binds K fd ps [] ∧ ∃ (oc : Value) (od : Option Addr) (osl : Array (Option Value)), K.lookup f = some ⟨oc, od, .func fd, osl⟩
theorem ok_defN {P : Program} {w : World} {K : PySem.W.Frag} {mg : Str → Option Value} {base : Heap} {x qual : Str} {st : Stmt} {N ps : List Str} {k : Nat} {R : List D → D → Prop} (F : DefAt K mg x qual st ps) (S : FnScope N ps (defScope st)) (hn : ∀ ds d, R ds d → ds.length = ps.length)
    (hb : ∀ (f : Addr) (cdv : Value) (A : Around) (outer : List Env) (s : Shared) (H : Hp) (E : XK), Room k (A.deeper (PyProof.Rows.envOfC qual (defScope st) s.heap.objs.size f cdv)) →
      ∃ t, PSs (cxOf CX0 P w K mg base N qual (defScope st) f cdv A outer s H E).nox (defBody st) t ∧ ∀ (I H' : Hp) ds d, R ds d → B ⟨K, I, H', [], fun _ _ _ _ => False⟩ (slots N ds) t { nx := fun _ => R ds .non, rt := fun e _ => R ds e }) :
    CalleeN P w K mg base x (k + 1) ps R := by
  obtain ⟨f, fd, F1, hm, b⟩ := F.ex
  obtain ⟨oc, od, kV, doc, pm, an, cdv, ct, osl, rfl, lk, _⟩ := id F1.ex
  exact ⟨f, _, ok_ofN F1 S hn (hb f), hm, F1.kp, b, oc, od, osl, lk⟩
section
variable {X : Cx} {P : Program} {w : World} (K : PySem.W.Frag) {mg : Str → Option Value} {base : Heap} {x : Str} {j k : Nat} {ps : List Str} {R : List D → D → Prop} {p pos : Pos} {e : Expr} {es : List Expr} {t : TA}
theorem k_callN (c : CalleeN P w K mg base x k ps R) (hr : Room j X.A) (hk : k ≤ j) (hg : Gl X x) (ha : PA X (e :: es) t) (hdb : (x == ("__debug__" : Str)) = false := by decide)
    (he : starEach (e :: es) X.env = (false, eval e X.env) :: starEach es X.env := by rfl) (hpl : (backTo pos (starEach es X.env)).any (·.1) = false := by rfl) (hx : Passes CX0 X E0 := by exact pass0)
    (hX : X.prog = P ∧ X.w = w ∧ X.K = K ∧ X.mg = mg ∧ X.base = base := by exact ⟨rfl, rfl, rfl, rfl, rfl⟩) :
    PE X (.Call (.Name x p) (e :: es) [] pos) (tCall (spN K R) [] E0 t) := by
  obtain ⟨rfl, rfl, rfl, rfl, rfl⟩ := hX
  obtain ⟨f, fd, F, hm, kp, b, _⟩ := c.ex
  exact pe_call F (hr.mono hk) hg hm kp b .nil hx ha hdb he hpl
end
end G

namespace G
open PySem PySem.Spec L2 PyProof.Rows
theorem exn_at {P : Program} {w : World} {H : Hp} {h : Heap} {a C dx : Addr} (hok : HOk P w H h) (he : ExnAt H a C dx) : ∃ oe, h.get? a = some oe ∧ Zc (.ref C) (some dx) oe ∧ PySem.W.notCls oe = true := by
  rcases he with he | he
  · obtain ⟨t1, ho⟩ := exo_at hok he
    exact ⟨_, ho, ⟨rfl, rfl⟩, rfl⟩
  · have x : ObjOk P w H h a (.ext fun h => ∃ (oe : Obj) (vs : Array Value), h.get? a = some oe ∧ Zc (.ref C) (some dx) oe ∧ oe.data = .fields vs) := hok a _ he
    obtain ⟨⟨oe, vs, e, z, q⟩, _⟩ := x
    exact ⟨oe, e, z, by unfold PySem.W.notCls; rw [q] <;> rfl⟩
theorem exdd_at {P : Program} {w : World} {H : Hp} {h : Heap} {dx : Addr} {fs : List (Str × V)} (hok : HOk P w H h) (he : ExdAt H dx fs) : ∃ mA, h.Ns1 dx mA ∧ ∀ f, RelO (fs.lookup f) (mA f) := by
  rcases he with he | he
  · exact exd_at hok he
  · have x : ObjOk P w H h dx (.xd fs) := hok dx _ he
    exact x
/-! ### exceptions of the program's own, as values -/
def tExv (C : Addr) (sp : Sp) (ta : TA) : TE := fun σ H Q => ta σ H fun vs H1 => vs.length ≤ 1000 ∧ ∀ a, H1 a = none → sp (.ref a :: vs) (upd H1 a (exo a C none)) (fun v H2 => v = .non ∧ Q (.ref a) H2) (fun _ _ _ => False)
section
variable {X : Cx} {o e : Expr} {es : List Expr} {to te : TE} {ta : TA} {f : Str} {p p' p1 p2 pos : Pos}
/-- C(e, ..) as a value, C's own __init__ keeping sp -/
theorem pe_exv {CX : CXT} {x : Str} {C fI : Addr} {k : Nat} {fd : FuncData} {ps : List Str} {sp : Sp} (T : OexC X.K C) (iC : PySem.W.findIn X.K (.ref C) "__init__" = some (some (.ref fI))) (tI : PySem.W.typeIn X.K (.ref fI) = some (.type "function"))
    (F1 : FnOk X.prog X.w X.K X.mg X.base CX k fI fd ps sp) (hr : Room (k + 1) X.A) (hb : Binds X.K fd ps []) (hx : Passes CX X (fun _ _ _ => False)) (hg : Gl X x) (hm : X.mg x = some (.ref C)) (ha : PA X (e :: es) ta)
    (hdb : (x == ("__debug__" : Str)) = false := by decide) (he : starEach (e :: es) X.env = (false, eval e X.env) :: starEach es X.env := by rfl) (hpl : (backTo pos (starEach es X.env)).any (·.1) = false := by rfl) :
    PE X (.Call (.Name x p) (e :: es) [] pos) (tExv C sp ta) := by
  refine ⟨fun pins s σ H Q I h => ?_⟩
  obtain ⟨nm, q, N, bs, bm, sn, sub, ab, col, dd, k0, k1, k2, k3, k5, hC, hbm⟩ := T.cls
  refine wpAny_Call_Name_kw (ld_glob I hg hm ?_ hdb)
  refine PySem.W.callWith_K (h₀ := X.base) I.ok.mod.kin T.kC (thn (ha.run pos pins s σ H _ I h) fun us s1 ⟨vs, H1, I1, r1, hz, q1⟩ => ⟨I1.kIn, ?_⟩) he hpl
  show wpAny _ _ (call (.ref C) us) _ _ _
  obtain ⟨hp, g, dr, tk, os⟩ := s1
  have hsz : hp.objs.size ≤ hp.objs.size + 1 := Nat.le_succ _
  have hn : H1 (hp.objs.size + 1) = none := I1.hok.fresh hsz
  have hq := q1 (hp.objs.size + 1) hn
  have kk : ∀ b o, hp.get? b = some o → ((hp.push (PySem.W.kdv_tup us)).push (PySem.HandSPX.excO C hp.objs.size)).get? b = some o := fun b o e => Heap.get?_push_of_some _ (Heap.get?_push_of_some _ e)
  have hget : ((hp.push (PySem.W.kdv_tup us)).push (PySem.HandSPX.excO C hp.objs.size)).get? (hp.objs.size + 1) = some (PySem.HandSPX.excO C hp.objs.size) := by heap_get
  have I2 : Inv X pins σ (upd H1 (hp.objs.size + 1) (exo (hp.objs.size + 1) C none)) ⟨(hp.push (PySem.W.kdv_tup us)).push (PySem.HandSPX.excO C hp.objs.size), g, dr, tk, os⟩ :=
    I1.laid (t' := tk) (a := hp.objs.size + 1) (o := exo (hp.objs.size + 1) C none) (h' := (hp.push (PySem.W.kdv_tup us)).push (PySem.HandSPX.excO C hp.objs.size)) kk hsz (exo_ok hget)
  have r2 : Vals (V.ref (hp.objs.size + 1) :: vs) (Value.ref (hp.objs.size + 1) :: us) := .cons rfl r1
  have hl : (Value.ref (hp.objs.size + 1) :: us).length = ps.length := by
    have e := r2.length
    rw [F1.len _ _ _ _ hq] at e
    exact e.symm
  have hus : us.length ≤ sizeLine := by
    rw [← Paired.length r1, sizeLine_eq]
    omega
  have b := hb _ (Value.ref (hp.objs.size + 1) :: us) I2.kIn (by rw [List.append_nil]; exact hl)
  rw [List.append_nil] at b
  refine wpAny_call (PySem.HandSPX.call_own F.excBase_ValueError (fun Y => PySem.HandSPX.refsVE_contains Y bm hbm) (I1.kIn _ _ hC) (PySem.W.looks_findIn I1.kIn iC) (fun self => PySem.W.bind_fn I1.kIn self tI) hus
    (codeAny_mono (F1.run _ X.stack _ _ ⟨Value.ref (hp.objs.size + 1) :: us, []⟩ (Value.ref (hp.objs.size + 1) :: us) _ _ (fun _ _ _ => False) (hr.make C us []) (I2.env0.make C us []) b r2 hq) fun r s' hq' => ?_))
  cases r with
  | error er => exact hx pins σ _ _ er s' I2 hq'
  | ok fl =>
    cases fl with
    | ret u =>
      obtain ⟨v, H2, J, rv, ev, q2⟩ := I2.after hq'
      subst ev
      exact ⟨rv, .ref (hp.objs.size + 1), H2, J, rfl, q2⟩
    | next => exact False.elim hq'
    | brk => exact False.elim hq'
    | cont => exact False.elim hq'
/-- B.__init__(self, ..) where the class B of the text has ValueError's own -/
theorem pe_teinit {pl : Sem Bool} {x : Str} {CT : Addr} (hg : Gl X x) (hm : X.mg x = some (.ref CT)) (r : ClX.CRead X.K CT (.type "type")) (vV : PySem.W.findCls X.K (.ref CT) (.type "type") "__init__" = some (.val (.builtin "ValueError.__init__"))) (ha : PA X (e :: es) ta)
    (hdb : (x == ("__debug__" : Str)) = false := by decide)
    (hc : eval (.Call (.Attribute (.Name x p1) "__init__" p2) (e :: es) [] pos) X.env = (do
      let ov ← eval (.Name x p1) X.env
      standAt p2.atName
      let (f, first) ← holding [ov] (getMethod ov "__init__" pl)
      callWith pos f first (backTo pos (starEach (e :: es) X.env)) (backToKw pos (keywordEach [] X.env))) := by rfl)
    (he : starEach (e :: es) X.env = (false, eval e X.env) :: starEach es X.env := by rfl) (hpl : (backTo pos (starEach es X.env)).any (·.1) = false := by rfl) :
    PE X (.Call (.Attribute (.Name x p1) "__init__" p2) (e :: es) [] pos) (tVeI X.K ta) := by
  refine ⟨fun pins s σ H Q I h => ?_⟩
  refine PySem.W.methodCall_KW (ld_glob I hg hm ?_ hdb) hc
  refine PySem.W.method_cls I.kIn r.ga (PySem.W.cls_value I.kIn r.rd vV (by decide +kernel) ?_)
  show wpAny _ _ (callWith pos (Value.builtin "ValueError.__init__") [] (backTo pos (starEach (e :: es) X.env)) []) _ _ _
  refine PyProof.Rows.callWith_method1 (thn (ha.run pos pins _ σ H _ (I.tok _) h) fun us s1 ⟨vs, H1, I1, r1, a, C, ws, ev, hl, T, ea, q⟩ => ?_) he hpl
  subst ev
  cases r1 with
  | @cons _ u0 _ ur ra rw' =>
    obtain rfl : u0 = Value.ref a := ra
    have hlen : ur.length ≤ sizeLine := by
      rw [← Paired.length rw', sizeLine_eq]
      omega
    exact oinit_ok T I1 ea hlen fun s' J => ⟨.non, H1, J, rfl, q⟩
/-- e.f, e an exception that has its dict -/
def tXv (K : PySem.W.Frag) (te : TE) (f : Str) : TE := fun σ H Q => te σ H fun x H1 => ∃ (a C dd : Addr) (fs : List (Str × V)) (v : V), x = .ref a ∧ XfC K C ∧ PySem.W.findIn K (.ref C) f = some none ∧ ExnAt H1 a C dd ∧ ExdAt H1 dd fs ∧ fs.lookup f = some v ∧ Q v H1
theorem pe_xv {n : Str} (he : PE X e te) (hb : attributeBase e n X.env (eval e X.env) = eval e X.env := by rfl) :
    PE X (.Attribute e n pos) (tXv X.K te n) := by
  refine ⟨fun pins s σ H Q I h => ?_⟩
  refine attr_of hb (thn (he.run pins s σ H _ I h) fun u s1 hh => ?_)
  obtain ⟨x, H1, I1, rx, a, C, dd, fs, v, ex, T, hno, ea, ed, l, q⟩ := hh
  subst ex
  obtain rfl : u = Value.ref a := rx
  obtain ⟨oe, ho, hz, hd⟩ := exn_at I1.hok ea
  obtain ⟨mA, hns, hr⟩ := exdd_at I1.hok ed
  obtain ⟨od, hod, hl⟩ := lookIn_ns hns
  obtain ⟨u, hu, ru⟩ := RelO.some_of (v := v) (o := mA n) (by rw [← l]; exact hr n)
  have J : PySem.W.InstAt s1.heap a oe C (some od) := ⟨ho, hz.1, hd, by rw [hz.2]; exact hod⟩
  exact HandSPX.exc_get I1.kIn J T.ga T.gg T.exC (PySem.W.findObj_own T.hdC hno rfl (by rw [hl, hu])) (handed_of ru) ⟨v, H1, I1.tok _, ru, q⟩
end
/-- what K says of a class of exceptions, for isinstance -/
structure XiC (K : PySem.W.Frag) (C : Addr) : Prop where
  cl : (PySem.W.clsIn K C).isSome = true
  ga : PySem.W.findIn K (.ref C) "__getattribute__" = some (some (.builtin "BaseException.__getattribute__"))
  gg : PySem.W.findIn K (.ref C) "__getattr__" = some none
  su : PySem.W.subIn K (.ref C) (.type "BaseException") = some true
  ha : PySem.W.findIn K (.ref C) "__class__" = some (some (.builtin "object.__class__"))
  hn : PySem.W.specialIn K (.builtin "object.__class__") "__get__" = some (some (.builtin "getset_descriptor.__get__"))
  ht : PySem.W.takesIn K (.builtin "object.__class__") = some true
  hm : PySem.W.mroIn K C (.type "object") = some true
/-- isinstance(e, c), e an exception that has its dict -/
def rIsX (K : PySem.W.Frag) : List V → Hp → VK → Prop := fun xs H Q => ∃ (a D dd : Addr) (c : V) (cv : Value) (b : Bool) (fs : List (Str × V)), xs = [.ref a, c] ∧ (∀ u, RelV c u → u = cv) ∧ XiC K D ∧ ExnAt H a D dd ∧ ExdAt H dd fs ∧ PySem.W.kitOne K (.ref D) cv = some b ∧ Q (.bl b) H
theorem call_isX {X : Cx} : CallR X (.builtin "isinstance") (rIsX X.K) := by
  intro pins s σ H xs us Q I r h
  obtain ⟨a, D, dd, c, cv, b, fs, rfl, hcv, C, ea, ed, e, q⟩ := h
  cases r with
  | cons rx rr =>
    cases rr with
    | cons rt rr =>
      cases rr
      cases rx
      have ec := hcv _ rt
      subst ec
      obtain ⟨oe, ho, hz, hd⟩ := exn_at I.hok ea
      obtain ⟨mA, hns, hr⟩ := exdd_at I.hok ed
      obtain ⟨od, hod, hl⟩ := lookIn_ns hns
      have J : PySem.W.InstAt s.heap a oe D (some od) := ⟨ho, hz.1, hd, by rw [hz.2]; exact hod⟩
      exact PySem.W.kia_one (PySem.W.kitx_exc C.cl C.ga C.gg C.su C.ha C.hn C.ht C.hm) I.kIn J e (fun z => nomatch z) fun tk => ⟨.bl b, H, I.kept (t' := tk) fun _ _ z => z, rfl, q⟩

/-! ### what an own __init__ of one field keeps, of two -/
def spI (C : Addr) (f : Str) : Sp := fun vs H Q _ => ∃ (a : Addr) (y : V), vs = [.ref a, y] ∧ H a = some (exo a C none) ∧ ∀ dx, H dx = none → dx ≠ a → Q .non (upd (upd H dx (exd dx [(f, y)])) a (exo a C (some dx)))
def spI2 (C : Addr) (f g : Str) : Sp := fun vs H Q _ => ∃ (a : Addr) (y z : V), vs = [.ref a, y, z] ∧ H a = some (exo a C none) ∧ ∀ dx, H dx = none → dx ≠ a → Q .non (upd (upd H dx (exd dx [(g, z), (f, y)])) a (exo a C (some dx)))
section
variable {P : Program} {w : World} {K : PySem.W.Frag} {mg : Str → Option Value} {base : Heap}
theorem ok_init {C : Addr} {qual fld p m : Str} {st : Stmt} {f : Addr} {fd : FuncData} (F : Fun K "__init__" qual st f fd) (S : FnScope ["self", p] ["self", p] (defScope st)) (T : OexC K C) (hno : PySem.W.findIn K (.ref C) fld = some none)
    (hb : ∀ (cdv : Value) (A : Around) (outer : List Env) (s : Shared) (H : Hp) (E : XK), PSs (cxOf CX0 P w K mg base ["self", p] qual (defScope st) f cdv A outer s H E).nox (defBody st) (tSeq (tDrop (tVeI K (tCons (tVar 0) (tCons (tC (.str m)) tNil)))) (tOst K fld (tVar 0) (tVar 1)))) :
    FnOk P w K mg base CX0 1 f fd ["self", p] (spI C fld) := by
  refine F.ok (k := 0) S (fun vs H Q E ⟨a, y, e, _⟩ => by rw [e]; rfl) (fun cdv A outer s H vs Q E hr ⟨a, y, e, ha, q⟩ => ⟨_, hb cdv A outer s H E, ?_⟩)
  subst e
  refine ⟨.ref a, rfl, ⟨a, C, [.str m], rfl, Nat.le_of_ble_eq_true rfl, T, ha, ?_⟩⟩
  refine ⟨y, rfl, .ref a, rfl, a, C, rfl, T, hno, .inl ⟨ha, fun dx h1 h2 => q dx h1 h2⟩⟩
theorem ok_init2 {C : Addr} {qual fld gld p r m : Str} {st : Stmt} {f : Addr} {fd : FuncData} (F : Fun K "__init__" qual st f fd) (S : FnScope ["self", p, r] ["self", p, r] (defScope st)) (T : OexC K C) (hno : PySem.W.findIn K (.ref C) fld = some none) (hno2 : PySem.W.findIn K (.ref C) gld = some none)
    (hb : ∀ (cdv : Value) (A : Around) (outer : List Env) (s : Shared) (H : Hp) (E : XK), PSs (cxOf CX0 P w K mg base ["self", p, r] qual (defScope st) f cdv A outer s H E).nox (defBody st) (tSeq (tDrop (tVeI K (tCons (tVar 0) (tCons (tC (.str m)) tNil)))) (tSeq (tOst K fld (tVar 0) (tVar 1)) (tOst K gld (tVar 0) (tVar 2))))) :
    FnOk P w K mg base CX0 1 f fd ["self", p, r] (spI2 C fld gld) := by
  refine F.ok (k := 0) S (fun vs H Q E ⟨a, y, z, e, _⟩ => by rw [e]; rfl) (fun cdv A outer s H vs Q E hr ⟨a, y, z, e, ha, q⟩ => ⟨_, hb cdv A outer s H E, ?_⟩)
  subst e
  refine ⟨.ref a, rfl, ⟨a, C, [.str m], rfl, Nat.le_of_ble_eq_true rfl, T, ha, ?_⟩⟩
  refine ⟨y, rfl, .ref a, rfl, a, C, rfl, T, hno, .inl ⟨ha, fun dx h1 h2 => ?_⟩⟩
  refine ⟨z, rfl, .ref a, rfl, a, C, rfl, T, hno2, .inr ⟨dx, [(fld, y)], upd_same, by rw [upd_ne h2]; exact upd_same, Nat.le_of_ble_eq_true rfl, ?_⟩⟩
  have e : upd (upd (upd H dx (exd dx [(fld, y)])) a (exo a C (some dx))) dx (exd dx [(gld, z), (fld, y)]) = upd (upd H dx (exd dx [(gld, z), (fld, y)])) a (exo a C (some dx)) := by
    funext b
    by_cases hb : b = dx
    · subst hb; rw [upd_same, upd_ne h2, upd_same]
    · rw [upd_ne hb]
      by_cases hba : b = a
      · subst hba; rw [upd_same, upd_same]
      · rw [upd_ne hba, upd_ne hba, upd_ne hb, upd_ne hb]
  rw [e]
  exact q dx h1 h2
end
/-- a class of exceptions of the text: at C, what its own __init__ keeps -/
structure XCallee (P : Program) (w : World) (K : PySem.W.Frag) (mg : Str → Option Value) (base : Heap) (x : Str) (C : Addr) (ps : List Str) (sp : Sp) : Prop where
  oc : OexC K C
  ex : ∃ fI fd, PySem.W.findIn K (.ref C) "__init__" = some (some (.ref fI)) ∧ PySem.W.typeIn K (.ref fI) = some (.type "function") ∧ FnOk P w K mg base CX0 1 fI fd ps sp ∧ Binds K fd ps []
  mg : mg x = some (.ref C)
/-- what is asked of a class of exceptions, all at one time -/
def xokB (K : PySem.W.Frag) (C : Addr) (fs : List Str) : Bool :=
  decide (PySem.W.findIn K (.ref C) "__getattribute__" = some (some (.builtin "BaseException.__getattribute__"))) && (decide (PySem.W.findIn K (.ref C) "__getattr__" = some none) && (decide (PySem.W.subIn K (.ref C) (.type "BaseException") = some true) && (PySem.W.hasDictIn K C &&
  ((PySem.W.clsIn K C).isSome && (decide (PySem.W.findIn K (.ref C) "__class__" = some (some (.builtin "object.__class__"))) && (decide (PySem.W.specialIn K (.builtin "object.__class__") "__get__" = some (some (.builtin "getset_descriptor.__get__"))) &&
  (decide (PySem.W.takesIn K (.builtin "object.__class__") = some true) && (decide (PySem.W.mroIn K C (.type "object") = some true) && fs.all fun f => decide (PySem.W.findIn K (.ref C) f = some none)))))))))
structure XOk' (K : PySem.W.Frag) (C : Addr) (fs : List Str) : Prop where
  xf : XfC K C
  xi : XiC K C
  no : ∀ f ∈ fs, PySem.W.findIn K (.ref C) f = some none
theorem xok_of {K : PySem.W.Frag} {C : Addr} {fs : List Str} (h : xokB K C fs = true) : XOk' K C fs := by
  obtain ⟨h1, h⟩ := Bool.and_eq_true_iff.mp h
  obtain ⟨h2, h⟩ := Bool.and_eq_true_iff.mp h
  obtain ⟨h3, h⟩ := Bool.and_eq_true_iff.mp h
  obtain ⟨h4, h⟩ := Bool.and_eq_true_iff.mp h
  obtain ⟨h5, h⟩ := Bool.and_eq_true_iff.mp h
  obtain ⟨h6, h⟩ := Bool.and_eq_true_iff.mp h
  obtain ⟨h7, h⟩ := Bool.and_eq_true_iff.mp h
  obtain ⟨h8, h⟩ := Bool.and_eq_true_iff.mp h
  obtain ⟨h9, h⟩ := Bool.and_eq_true_iff.mp h
  exact ⟨⟨of_decide_eq_true h1, of_decide_eq_true h2, of_decide_eq_true h3, h4⟩, ⟨h5, of_decide_eq_true h1, of_decide_eq_true h2, of_decide_eq_true h3, of_decide_eq_true h6, of_decide_eq_true h7, of_decide_eq_true h8, of_decide_eq_true h9⟩,
    fun f hf => of_decide_eq_true (List.all_eq_true.mp h f hf)⟩
section
variable {X : Cx} {P : Program} {w : World} (K : PySem.W.Frag) {mg : Str → Option Value} {base : Heap} {x : Str} {C : Addr} {j : Nat} {ps : List Str} {sp : Sp} {p pos : Pos} {e : Expr} {es : List Expr} {t : TA}
theorem k_exv (c : XCallee P w K mg base x C ps sp) (hr : Room j X.A) (hk : 2 ≤ j) (hg : Gl X x) (ha : PA X (e :: es) t) (hdb : (x == ("__debug__" : Str)) = false := by decide)
    (he : starEach (e :: es) X.env = (false, eval e X.env) :: starEach es X.env := by rfl) (hpl : (backTo pos (starEach es X.env)).any (·.1) = false := by rfl) (hx : Passes CX0 X E0 := by exact pass0)
    (hX : X.prog = P ∧ X.w = w ∧ X.K = K ∧ X.mg = mg ∧ X.base = base := by exact ⟨rfl, rfl, rfl, rfl, rfl⟩) :
    PE X (.Call (.Name x p) (e :: es) [] pos) (tExv C sp t) := by
  obtain ⟨rfl, rfl, rfl, rfl, rfl⟩ := hX
  obtain ⟨fI, fd, iC, tI, F, b⟩ := c.ex
  exact pe_exv c.oc iC tI F (hr.mono hk) b hx hg c.mg ha hdb he hpl
theorem k_xv {n : Str} {te : TE} (he : PE X e te) (hb : attributeBase e n X.env (eval e X.env) = eval e X.env := by rfl) (hK : X.K = K := by rfl) : PE X (.Attribute e n pos) (tXv K te n) := by subst hK; exact pe_xv he hb
end
def rIsiX (K : PySem.W.Frag) : List V → Hp → VK → Prop := fun xs H Q => rIsi K xs H Q ∨ rIsX K xs H Q
theorem k_isiX {X : Cx} (K : PySem.W.Frag) (hK : X.K = K := by rfl) : CallR X (.builtin "isinstance") (rIsiX K) := by
  subst hK
  intro pins s σ H xs us Q I r h
  rcases h with h | h
  · exact call_isi _ _ _ _ _ _ _ I r h
  · exact call_isX _ _ _ _ _ _ _ I r h
section
variable {K : PySem.W.Frag} {Γ : Sl} {te : TE} {ta : TA} {d : D} {C : Addr} {f g : Str}
theorem ca_isL {xs : List D} {d : D} (h : Ca K (rIsi K) xs d) : Ca K (rIsiX K) xs d := fun I H us e r Q q => .inl (h I H us e r Q q)
theorem ca_isR {D0 C0 : Addr} {ns : List Str} {ds : List D} {b : Bool} (xi : XiC K D0) (hk : PySem.W.kitOne K (.ref D0) (.ref C0) = some b) : Ca K (rIsiX K) [.exn D0 ns ds, .ref C0] (.bl b) := fun I H us e r Q q => by
  cases r with
  | cons r1 r =>
    cases r with
    | cons r2 r =>
      cases r
      cases r2
      cases r1 with
      | exn h1 h2 hl hr => exact .inr ⟨_, _, _, _, _, _, _, rfl, fun u hu => hu, xi, h1.mono e, h2.mono e, hk, q I H _ (Gr.refl e) (.bl b)⟩
theorem ca_isRT {D0 : Addr} {n : String} {ns : List Str} {ds : List D} {b : Bool} (xi : XiC K D0) (hk : PySem.W.kitOne K (.ref D0) (.type n) = some b) : Ca K (rIsiX K) [.exn D0 ns ds, .ty n] (.bl b) := fun I H us e r Q q => by
  cases r with
  | cons r1 r =>
    cases r with
    | cons r2 r =>
      cases r
      cases r2
      cases r1 with
      | exn h1 h2 hl hr => exact .inr ⟨_, _, _, _, _, _, _, rfl, fun u hu => hu, xi, h1.mono e, h2.mono e, hk, q I H _ (Gr.refl e) (.bl b)⟩
theorem lk_put {α : Type} (f g : Str) (y : α) (fs : List (Str × α)) : ((f, y) :: fs).lookup g = if g = f then some y else fs.lookup g := by
  by_cases h : g = f
  · subst h; simp [List.lookup]
  · have e : (g == f) = false := by simpa using h
    rw [if_neg h]; simp [List.lookup, e]
theorem lk_zip {I : Hp} {f : Str} : ∀ {ns : List Str} {vs : List V} {ds : List D} {d : D}, Rps K I vs ds → (ns.zip ds).lookup f = some d → ∃ v, (ns.zip vs).lookup f = some v ∧ Rp K I v d
  | [], _, _, _, _, h => by simp at h
  | _ :: _, _, _, _, .nil, h => by simp at h
  | n :: ns, _, _, d, .cons (v := v) (d := d') r rs, h => by
    rw [List.zip_cons_cons, lk_put] at h
    rw [List.zip_cons_cons, lk_put]
    by_cases e : f = n
    · rw [if_pos e] at h ⊢; cases h; exact ⟨v, rfl, r⟩
    · rw [if_neg e] at h ⊢; exact lk_zip rs h
/-- the fields as they stand: the last one set first -/
theorem e_exv (ha : EA K Γ ta [d]) : E K Γ (tExv C (spI C f) ta) (.exn C [f] [d]) := fun I σ H as e l Q q => by
  refine ha I σ H as e l _ fun I1 H1 vs g1 r1 => ⟨by rw [r1.length]; exact Nat.le_of_ble_eq_true rfl, fun a hn => ?_⟩
  cases r1 with
  | cons r r' =>
    cases r'
    rename_i y
    refine ⟨a, y, rfl, upd_same, fun dx h1 h2 => ⟨rfl, ?_⟩⟩
    rw [upd_ne h2] at h1
    have ee : upd (upd (upd H1 a (exo a C none)) dx (exd dx [(f, y)])) a (exo a C (some dx)) = upd (upd H1 dx (exd dx [(f, y)])) a (exo a C (some dx)) := by
      funext b
      by_cases hb : b = a
      · subst hb; rw [upd_same, upd_same]
      · rw [upd_ne hb, upd_ne hb]
        by_cases hd : b = dx
        · subst hd; rw [upd_same, upd_same]
        · rw [upd_ne hd, upd_ne hd, upd_ne hb]
    rw [ee]
    have gA := Gr.new (m := []) (o := exd dx [(f, y)]) g1.ih h1
    have hna : upd H1 dx (exd dx [(f, y)]) a = none := by rw [upd_ne (Ne.symm h2)]; exact hn
    have gB := Gr.new (m := []) (o := exo a C (some dx)) gA.ih hna
    refine q _ _ _ ((g1.trans gA).trans gB) (.exn (xs := [y]) (.inl upd_same) (.inl ?_) rfl (.cons (r.mono (gA.trans gB).i) .nil))
    rw [upd_ne h2]; exact upd_same
theorem e_exv2 {d2 : D} (ha : EA K Γ ta [d, d2]) : E K Γ (tExv C (spI2 C f g) ta) (.exn C [g, f] [d2, d]) := fun I σ H as e l Q q => by
  refine ha I σ H as e l _ fun I1 H1 vs g1 r1 => ⟨by rw [r1.length]; exact Nat.le_of_ble_eq_true rfl, fun a hn => ?_⟩
  cases r1 with
  | cons r r' =>
    cases r' with
    | cons rz r' =>
    cases r'
    rename_i y z
    refine ⟨a, y, z, rfl, upd_same, fun dx h1 h2 => ⟨rfl, ?_⟩⟩
    rw [upd_ne h2] at h1
    have ee : upd (upd (upd H1 a (exo a C none)) dx (exd dx [(g, z), (f, y)])) a (exo a C (some dx)) = upd (upd H1 dx (exd dx [(g, z), (f, y)])) a (exo a C (some dx)) := by
      funext b
      by_cases hb : b = a
      · subst hb; rw [upd_same, upd_same]
      · rw [upd_ne hb, upd_ne hb]
        by_cases hd : b = dx
        · subst hd; rw [upd_same, upd_same]
        · rw [upd_ne hd, upd_ne hd, upd_ne hb]
    rw [ee]
    have gA := Gr.new (m := []) (o := exd dx [(g, z), (f, y)]) g1.ih h1
    have hna : upd H1 dx (exd dx [(g, z), (f, y)]) a = none := by rw [upd_ne (Ne.symm h2)]; exact hn
    have gB := Gr.new (m := []) (o := exo a C (some dx)) gA.ih hna
    refine q _ _ _ ((g1.trans gA).trans gB) (.exn (xs := [z, y]) (.inl upd_same) (.inl ?_) rfl (.cons (rz.mono (gA.trans gB).i) (.cons (r.mono (gA.trans gB).i) .nil)))
    rw [upd_ne h2]; exact upd_same
theorem e_xv {ns : List Str} {ds : List D} {fl : List Str} (h : E K Γ te (.exn C ns ds)) (x : XOk' K C fl) (hf : f ∈ fl) (hl : (ns.zip ds).lookup f = some d) : E K Γ (tXv K te f) d := fun I σ H as e l Q q =>
  h I σ H as e l _ fun I1 H1 v g1 r1 => by
    cases r1 with
    | exn h1 h2 hn hr =>
      obtain ⟨v, hv, rv⟩ := lk_zip hr hl
      exact ⟨_, _, _, _, _, rfl, x.xf, x.no f hf, h1.mono g1.ih, h2.mono g1.ih, hv, q _ _ _ g1 rv⟩
end
end G

namespace G
open PySem PySem.Spec L2 PyProof.Rows
/-! ### try with several clauses, named or not; the caught exception is an object of ours -/
/-- what the clauses wish of an exception of the body, one after the other: the class, the slot of the name, the suite -/
def wMix (K : PySem.W.Frag) (Wout : WX) (D : Ends) : List (Value × Option Nat × TS) → WX
  | [] => Wout
  | (c, none, ts) :: r => fun cls d σ H => ∃ b, PySem.W.exmOne K cls c = some b ∧ (b = true → ∀ a, H a = none → ts D σ (upd H a (exx a cls d))) ∧ (b = false → wMix K Wout D r cls d σ H)
  | (c, some i, ts) :: r => fun cls d σ H => ∃ b, PySem.W.exmOne K cls c = some b ∧ (b = true → ∀ a, H a = none → ts { nx := fun σ' H' => D.nx (σ'.set i none) H', rt := D.rt, bk := fun σ' H' => D.bk (σ'.set i none) H', ct := fun σ' H' => D.ct (σ'.set i none) H' } (σ.set i (some (.ref a))) (upd H a (exx a cls d))) ∧
      (b = false → wMix K Wout D r cls d σ H)
inductive HdsMix (X : Cx) : List ExceptHandler → List (Value × Option Nat × TS) → Prop
  | nil : HdsMix X [] []
  | cons {x : Str} {c : Value} {ts : TS} {b₀ : Stmt} {suite : List Stmt} {np pos' : Pos} {hds : List ExceptHandler} {l : List (Value × Option Nat × TS)} (hc : Names X x c)
      (hsu : ∀ (a : Addr) (pn : List (Addr × Obj)), PSs (X.suite a pn) (b₀ :: suite) ts) (r : HdsMix X hds l) :
      HdsMix X (.ExceptHandler (some (.Name x np)) none (b₀ :: suite) pos' :: hds) ((c, none, ts) :: l)
  | consN {x n : Str} {i : Nat} {c : Value} {ts : TS} {b₀ : Stmt} {suite : List Stmt} {np pos' : Pos} {hds : List ExceptHandler} {l : List (Value × Option Nat × TS)} (hc : Names X x c) (hi : X.N[i]? = some n) (hln : X.env.kindOf n = some .local)
      (hsu : ∀ (a : Addr) (pn : List (Addr × Obj)), PSs (X.suite a pn) (b₀ :: suite) ts) (r : HdsMix X hds l) :
      HdsMix X (.ExceptHandler (some (.Name x np)) (some n) (b₀ :: suite) pos' :: hds) ((c, some i, ts) :: l)
section
variable {X : Cx} {pins : List (Addr × Obj)} {σ : L2.St} {H : Hp} {s sI s' : Shared} {B : Heap}
theorem landedX (I : Inv X pins σ H sI) (nb : ∀ b o, sI.heap.get? b = some o → b ∉ frs X.stack → B.get? b = some o) (st : B.StaysIn s'.heap) (up : sI.heap.UpToSlots s'.heap) (os : s'.os = sI.os) (ag : AllBare s'.gens)
    {a : Addr} {o : HO} (na : H a = none) (n0 : sI.heap.get? a = none) (new : ObjOk X.prog X.w (upd H a o) s'.heap a o) : Inv X pins σ (upd H a o) s' := by
  have nf : ∀ b ∈ frs X.stack, ∀ o, sI.heap.get? b = some o → ∃ sl, s'.heap.get? b = some { o with slots := sl } := fun b hb o e => by
    obtain ⟨_, o', e', hd⟩ := I.stack.mem hb
    rw [e] at e'; cases e'
    exact up b o e hd
  have ne : ∀ {b : Addr} {u : Obj}, sI.heap.get? b = some u → b ≠ a := fun e z => by rw [z, n0] at e; cases e
  have J := I.call (ch := []) (h' := s'.heap) (g' := s'.gens) (t' := s'.toks) (d' := s'.drawn) (H' := upd H a o)
    ⟨fun b o e _ hb _ => st b o (nb b o e hb), fun b o e _ hb _ => nf b hb o e, fun b u e n _ => by rw [upd_ne (ne e)]; exact n, fun b o e _ => by
      by_cases hb : b ∈ frs X.stack
      · obtain ⟨sl, q⟩ := nf b hb o e
        exact ⟨_, q⟩
      · exact ⟨o, st b o (nb b o e hb)⟩, fun b xs e => by rw [upd_ne (ne_of_none e na)]; exact e, fun b u v e => by rw [upd_ne (ne_of_none e na)]; exact e, fun b ps e => ⟨#[], by rw [upd_ne (ne_of_none e na), e]; simp⟩⟩
    (((I.inGround nb).kept st).laidN (fun _ _ z => z) na new) ag (fun _ z => nomatch z)
  obtain ⟨a1, a2, a3, a4, a5⟩ := s'
  have e5 : a5 = sI.os := os
  subst e5
  exact J
theorem suiteX (I : Inv X pins σ H s) {a : Addr} : Inv (X.suite a (X.pn ++ pins)) [] σ H s :=
  ⟨I.ok.suite _ _, I.os, I.bare, I.base, I.loc, I.cell, I.free, I.freeC, fun p hp => I.pin p (by rw [List.append_nil] at hp; exact hp), I.hok, I.len⟩
theorem unsuiteX {a : Addr} {pn' : List (Addr × Obj)} (I : Inv (X.suite a (X.pn ++ pins)) pn' σ H s) (ok : X.Ok) : Inv X pins σ H s :=
  ⟨ok, I.os, I.bare, I.base, I.loc, I.cell, I.free, I.freeC, fun p hp => I.pin p (List.mem_append_left _ hp), I.hok, I.len⟩
end
section
variable {X : Cx} {body : List Stmt} {h₀ : ExceptHandler} {hds : List ExceptHandler} {l : List (Value × Option Nat × TS)} {pos : Pos} {tb : WX → TS} {Wout : WX}
theorem ps_try_mix (hs : X.stack = X.env :: X.outer) (hf : X.env.frame = some X.env.locals) (hN : X.N.Nodup) (tk : Takes X Wout)
    (hb : ∀ (W : WX) (pn : List (Addr × Obj)) (xe : Value → Shared → Prop), Takes (X.tr pn xe) W → PassesOwn (model X.prog X.w) X.A X.env xe → PSs (X.tr pn xe) body (tb W))
    (hh : HdsMix X (h₀ :: hds) l) : PS X (.Try body (h₀ :: hds) [] [] pos) (fun D σ H => tb (wMix X.K Wout D l) D σ H) := by
  refine ⟨fun pins s σ H D I h => ?_⟩
  have ok := I.ok
  have hfr : X.A.frames = some (X.env :: X.outer) := by rw [ok.frames, hs]
  refine wpAny_Try_except ?_
  refine wpAny_mono ((hb (wMix X.K Wout D l) (X.pn ++ pins) (fun e s₁ => wpAny (model X.prog X.w) X.A (noteFrame e X.env) (fun _ s₂ => wpAny (model X.prog X.w) X.A (setFlight e none) (fun _ s₃ =>
    wpAny (model X.prog X.w) X.A (handleBy e X.env (h₀ :: hds)) (SP X pins D) X.xe s₃) X.xe s₂) X.xe s₁) (fun u s' xx => ?_) PassesOwn.looking).run [] s σ H D (I.toTry _) h) (fun f s1 hsp => ?_) (fun e s1 he => he)
  · -- the catch
    obtain ⟨a, B, sI, pins', σ', H', cls, d, rfl, J', nb, up, sky, na, os, ag, w⟩ := xx
    have J : Inv X pins σ' H' sI := J'.ofTry ok
    have sky' : Sky B (X.env :: X.outer) a (Zc cls d) X.env.locals s'.heap := by rw [← hs]; exact sky
    show wpAny (model X.prog X.w) X.A (noteFrame (.ref a) X.env) _ _ _
    refine Sky.land Zc.steady hfr hf sky' fun h3 fl3 up3 => ?_
    have J3 : Inv X pins σ' H' { s' with heap := h3 } := J.landed nb fl3.1 (up.trans up3) os ag
    obtain ⟨oe3, vs3, he3, hz3, hd3⟩ := fl3.there
    have notFr : ∀ {h : Heap} {o : Obj} {vs : Array Value}, h.FunFrames B (X.env :: X.outer) → h.get? a = some o → o.data = .fields vs → a ∉ frs (X.env :: X.outer) := fun {h o vs} ff e dd hm => by
      obtain ⟨_, o', e', hnf⟩ := ff.mem hm
      rw [e] at e'; cases e'
      exact hnf _ dd
    have nfr := notFr fl3.2.2.1 he3 hd3
    have nL : a ≠ X.env.locals := fun z => nfr (List.mem_filterMap.mpr ⟨X.env, List.mem_cons_self, by rw [hf, z]⟩)
    have nF : a ∉ X.fs := fun hm => by
      obtain ⟨e, he, q⟩ := List.mem_filterMap.mp hm
      exact nfr (List.mem_filterMap.mpr ⟨e, List.mem_cons_of_mem _ he, q⟩)
    have n0 : sI.heap.get? a = none := by
      cases q : sI.heap.get? a with
      | none => rfl
      | some o =>
        have z := nb a o q (by rw [hs]; exact nfr)
        rw [fl3.2.1] at z
        cases z
    have S3 := J3.suite he3 hd3 na nL nF
    have go : ∀ {hds' : List ExceptHandler} {l' : List (Value × Option Nat × TS)}, HdsMix X hds' l' → wMix X.K Wout D l' cls d σ' H' →
        wpAny (model X.prog X.w) X.A (handleBy (.ref a) X.env hds') (SP X pins D) X.xe { s' with heap := h3 } := by
      intro hds' l' hk
      have LT : PySem.W.Looks (model X.prog X.w) h3 (typeOf (.ref a)) cls := fun A Q E s k q => wpAny_typeOf_ref (k _ _ he3) (by rw [hz3.1]; exact q)
      have test : ∀ {x : Str} {c : Value} {np : Pos} {Q : Value → Shared → Prop} {E : Value → Shared → Prop}, Names X x c → Q c { s' with heap := h3 } → wpAny (model X.prog X.w) (X.A.mark (some (.ref a))) (eval (.Name x np) X.env) Q E { s' with heap := h3 } := fun {x c np Q E} hc q => by
        obtain ⟨hg, hdbg, hm | ⟨hm, hv, hnn⟩⟩ := hc
        · exact ld_glob (X := X.suite a ((a, oe3) :: (X.pn ++ pins))) S3 hg hm q hdbg
        · exact ld_blt (X := X.suite a ((a, oe3) :: (X.pn ++ pins))) S3 hg hm hv q hnn hdbg
      induction hk with
      | nil =>
        intro w
        refine wpAny_handleBy_nil ?_
        obtain ⟨k1, k2, k3, oe, vs, T, oT, ts', he, hz, hd, h1, hr⟩ := id fl3
        unfold PySem.passOn
        refine wpAny_bind (wpAny_field he hd h1 ?_)
        rw [if_neg (show ¬ ((Value.ref T == Value.none) = true) from by simp)]
        have fin : wpAny (model X.prog X.w) X.A (setFlight (.ref a) X.env.frame) (fun _ s4 => wpAny (model X.prog X.w) X.A (throw (.ref a) : Sem Flow) (SP X pins D) X.xe s4) X.xe { s' with heap := h3 } := by
          rw [hf]
          refine HandSPX.setFlight_upZ fl3 fun h4 hh4 up4 => wpAny_throw (tk _ _ ?_)
          exact ⟨a, B, sI, pins, σ', H', cls, d, rfl, J, nb, (up.trans up3).trans up4, .inr (.inr (by rw [hs]; exact hh4)), na, os, ag, w⟩
        first
          | exact wpAny_bind (wpAny_pure (wpAny_bind fin))
          | exact wpAny_bind fin
      | @cons x c ts b₀ suite np pos' hds2 l2 hc hsu r ih =>
        intro w
        obtain ⟨b, hb1, hyes, hno⟩ := w
        refine wpAny_handleBy_cons (codeAny_handlers_test ?_) (by intro q; cases q)
        have LM := PySem.W.exm_one (M := model X.prog X.w) (J3.kIn) LT hb1
        refine test hc (LM.here ?_)
        cases b with
        | true =>
          refine codeAny_handlers_suite ?_
          refine HandSPX.lands_againZ fl3 fun h4 fl4 up4 => ?_
          obtain ⟨oe4, vs4, he4, hz4, hd4⟩ := fl4.there
          have J4 := landedX (s' := { s' with heap := h4 }) J nb fl4.1 ((up.trans up3).trans up4) os ag na n0 (exx_ok (d := d) he4 hz4 hd4)
          refine wpAny_mono ((hsu a (X.pn ++ pins)).run [] _ _ _ _ (suiteX J4) (hyes rfl a na)) (fun f s6 hsp => ?_) (fun _ _ z => False.elim z)
          cases f with
          | next =>
            obtain ⟨σ6, H6, S6, q6⟩ := hsp
            exact ⟨_, _, unsuiteX S6 ok, q6⟩
          | brk =>
            obtain ⟨σ6, H6, S6, q6⟩ := hsp
            exact ⟨_, _, unsuiteX S6 ok, q6⟩
          | cont =>
            obtain ⟨σ6, H6, S6, q6⟩ := hsp
            exact ⟨_, _, unsuiteX S6 ok, q6⟩
          | ret u =>
            obtain ⟨v6, σ6, H6, S6, r6, q6⟩ := hsp
            exact ⟨_, _, _, unsuiteX S6 ok, r6, q6⟩
        | false =>
          show wpAny _ X.A (handleBy (.ref a) X.env hds2) _ _ _
          exact ih (hno rfl)
      | @consN x n i c ts b₀ suite np pos' hds2 l2 hc hi hln hsu r ih =>
        intro w
        obtain ⟨b, hb1, hyes, hno⟩ := w
        have hloc : Loc X.env.scope n := .inl hln
        refine wpAny_handleBy_cons (codeAny_handlers_test ?_) (by intro q; cases q)
        have LM := PySem.W.exm_one (M := model X.prog X.w) (J3.kIn) LT hb1
        refine test hc (LM.here ?_)
        cases b with
        | true =>
          refine codeAny_handlers_suite_as ?_
          refine HandSPX.lands_againZ fl3 fun h4 fl4 up4 => ?_
          obtain ⟨oe4, vs4, he4, hz4, hd4⟩ := fl4.there
          have J4 := landedX (s' := { s' with heap := h4 }) J nb fl4.1 ((up.trans up3).trans up4) os ag na n0 (exx_ok (d := d) he4 hz4 hd4)
          refine store_ok (X := X.suite a (X.pn ++ pins)) (v := .ref a) (suiteX J4) hN hi hloc rfl (fun s5 S5 => ?_) (.inr hln)
          refine wpAny_mono ((hsu a (X.pn ++ pins)).run [] s5 _ _ _ S5 (hyes rfl a na)) (fun f s6 hsp => ?_) (fun _ _ z => False.elim z)
          have end_ : ∀ {σ6 : L2.St} {H6 : Hp} {Q : Shared → Prop}, Inv (X.suite a (X.pn ++ pins)) [] σ6 H6 s6 → (∀ s7, Inv X pins (σ6.set i none) H6 s7 → Q s7) →
              wpAny (model X.prog X.w) X.A (do bindName X.env n .none; unbindBehindTheSuite X.env n pos') (fun _ s7 => Q s7) X.xe s6 := fun {σ6 H6 Q} S6 hq => gone_ok (unsuiteX S6 ok) hN hi hln hq
          cases f with
          | next =>
            obtain ⟨σ6, H6, S6, q6⟩ := hsp
            exact end_ S6 fun s7 J7 => ⟨_, _, J7, q6⟩
          | brk =>
            obtain ⟨σ6, H6, S6, q6⟩ := hsp
            exact end_ S6 fun s7 J7 => ⟨_, _, J7, q6⟩
          | cont =>
            obtain ⟨σ6, H6, S6, q6⟩ := hsp
            exact end_ S6 fun s7 J7 => ⟨_, _, J7, q6⟩
          | ret u =>
            obtain ⟨v6, σ6, H6, S6, r6, q6⟩ := hsp
            exact end_ S6 fun s7 J7 => ⟨_, _, _, J7, r6, q6⟩
        | false =>
          show wpAny _ X.A (handleBy (.ref a) X.env hds2) _ _ _
          exact ih (hno rfl)
    exact go hh w
  · cases f with
    | next =>
      obtain ⟨σ', H', J', q⟩ := hsp
      exact wpAny_execs_nil ⟨σ', H', J'.ofTry ok, q⟩
    | brk =>
      obtain ⟨σ', H', J', q⟩ := hsp
      exact ⟨σ', H', J'.ofTry ok, q⟩
    | cont =>
      obtain ⟨σ', H', J', q⟩ := hsp
      exact ⟨σ', H', J'.ofTry ok, q⟩
    | ret u =>
      obtain ⟨v, σ', H', J', r, q⟩ := hsp
      exact ⟨v, σ', H', J'.ofTry ok, r, q⟩
end
end G

namespace G
open PySem PySem.Spec L2
/-! ### defs that may raise -/
section
variable {P : Program} {w : World} {K : PySem.W.Frag} {mg : Str → Option Value} {base : Heap} {N : List Str} {qual : Str} {sc : Scope} {f : Addr} {cdv : Value} {A : Around} {outer : List Env} {s : Shared} {H : Hp} {E : XK}
theorem takes_cx : Takes (cxOf (L2.CX P w) P w K mg base N qual sc f cdv A outer s H E) (fun cls d _ H => E cls d H) := takes_of rfl rfl rfl rfl
theorem passes_cx : PassesOwn (model P w) (cxOf (L2.CX P w) P w K mg base N qual sc f cdv A outer s H E).A (cxOf (L2.CX P w) P w K mg base N qual sc f cdv A outer s H E).env (cxOf (L2.CX P w) P w K mg base N qual sc f cdv A outer s H E).xe := passes_of (X := cxOf (L2.CX P w) P w K mg base N qual sc f cdv A outer s H E) rfl
end
inductive Out where
  | ok (d : D) | ex (C : Addr) (ns : List Str) (ds : List D)
/-- what such a def keeps -/
def spX (K : PySem.W.Frag) (R : List D → Out → Prop) : Sp := fun vs H Q E => ∃ (I : Hp) (ds : List D), Ex I H ∧ Rps K I vs ds ∧ (∃ o, R ds o) ∧ (∀ d, R ds (.ok d) → ∀ I' H' v, Gr [] I H I' H' → Rp K I' v d → Q v H') ∧
  (∀ C ns es, R ds (.ex C ns es) → ∀ I' H' dx, Gr [] I H I' H' → XdAt K I' H' H dx ns es → E (.ref C) (some dx) H')
section
variable {ζ : Xz} {Γ : Sl} {k : D → Prop}
theorem en_callX {R : List D → Out → Prop} {ta : TA} (h : EAN ζ Γ ta fun ds => (∃ o, R ds o) ∧ (∀ d, R ds (.ok d) → k d) ∧ ∀ C ns es, R ds (.ex C ns es) → ζ.x C ns es) : EN ζ Γ (tCallS (spX ζ.K R) (WE ζ.W) ta) k := fun I σ H as e l zz Q q =>
  h I σ H as e l zz _ fun I1 H1 vs ds h1 g1 r1 => ⟨I1, ds, g1.ih, r1, h1.1, fun d hd I2 H2 v g2 r2 => q I2 H2 v d (h1.2.1 d hd) (g1.trans g2) r2,
    fun C ns es hx I2 H2 dx g2 x2 => zz I2 H2 C ns es dx (h1.2.2 C ns es hx) (g1.trans g2) (x2.back g1.th)⟩
end
section
variable {c : Cz} {Γ : Sl} {κ : Ks} {d d2 : D} {ds : List D}
/-- raise C(e) -/
theorem b_raise {C : Addr} {f : Str} {ta : TA} (h : EA c.K Γ ta [d]) (k : κ.ex Γ C [f] [d]) : B c Γ (fun _ σ H => tMkO C (spI C f) [] ta σ H fun cls d H' => c.W cls d σ H') κ := fun lb I σ H as De e a q =>
  h I σ H as a.gr.ih a.lo _ fun I1 H1 vs g1 r1 => ⟨by rw [r1.length]; exact Nat.le_of_ble_eq_true rfl, fun x hn => by
    cases r1 with
    | cons r r' =>
      cases r'
      rename_i y
      refine ⟨x, y, rfl, upd_same, fun dx h1 h2 => ⟨rfl, dx, [(f, y)], upd_same, by rw [upd_ne h2]; exact upd_same, by rw [upd_ne h2] at h1; exact h1, ?_⟩⟩
      rw [upd_ne h2] at h1
      have ee : upd (del (upd (upd (upd H1 x (exo x C none)) dx (exd dx [(f, y)])) x (exo x C (some dx))) x) dx (.xd [(f, y)]) = upd H1 dx (.xd [(f, y)]) := by
        funext b
        by_cases hb : b = dx
        · subst hb; rw [upd_same, upd_same]
        · rw [upd_ne hb, upd_ne hb]
          by_cases hx : b = x
          · subst hx; rw [del_same, hn]
          · rw [del_ne hx, upd_ne hx, upd_ne hb, upd_ne hx]
      rw [ee]
      have a1 := a.mono g1
      have nI : I1 dx = none := a1.gr.ih.free h1
      refine q.ex I1 σ _ as Γ C [f] [d] dx k (e.trans g1.i) (a1.mono (Gr.junk a1.gr.ih h1)) ⟨⟨[y], upd_same, rfl, .cons r .nil⟩, nI, ?_⟩
      cases z : c.H dx with
      | none => rfl
      | some o => exact absurd h1 (a1.gr.th dx (by rw [z]; exact nofun))⟩
theorem b_raise2 {C : Addr} {f g : Str} {ta : TA} (h : EA c.K Γ ta [d, d2]) (k : κ.ex Γ C [g, f] [d2, d]) : B c Γ (fun _ σ H => tMkO C (spI2 C f g) [] ta σ H fun cls d H' => c.W cls d σ H') κ := fun lb I σ H as De e a q =>
  h I σ H as a.gr.ih a.lo _ fun I1 H1 vs g1 r1 => ⟨by rw [r1.length]; exact Nat.le_of_ble_eq_true rfl, fun x hn => by
    cases r1 with
    | cons r r' =>
      cases r' with
      | cons rz r' =>
      cases r'
      rename_i y z
      refine ⟨x, y, z, rfl, upd_same, fun dx h1 h2 => ⟨rfl, dx, [(g, z), (f, y)], upd_same, by rw [upd_ne h2]; exact upd_same, by rw [upd_ne h2] at h1; exact h1, ?_⟩⟩
      rw [upd_ne h2] at h1
      have ee : upd (del (upd (upd (upd H1 x (exo x C none)) dx (exd dx [(g, z), (f, y)])) x (exo x C (some dx))) x) dx (.xd [(g, z), (f, y)]) = upd H1 dx (.xd [(g, z), (f, y)]) := by
        funext b
        by_cases hb : b = dx
        · subst hb; rw [upd_same, upd_same]
        · rw [upd_ne hb, upd_ne hb]
          by_cases hx : b = x
          · subst hx; rw [del_same, hn]
          · rw [del_ne hx, upd_ne hx, upd_ne hb, upd_ne hx]
      rw [ee]
      have a1 := a.mono g1
      have nI : I1 dx = none := a1.gr.ih.free h1
      refine q.ex I1 σ _ as Γ C [g, f] [d2, d] dx k (e.trans g1.i) (a1.mono (Gr.junk a1.gr.ih h1)) ⟨⟨[z, y], upd_same, rfl, .cons rz (.cons r .nil)⟩, nI, ?_⟩
      cases z : c.H dx with
      | none => rfl
      | some o => exact absurd h1 (a1.gr.th dx (by rw [z]; exact nofun))⟩
/-- what the clauses must do with an exception -/
def HsOk (c : Cz) (κ : Ks) : List (Value × Option Nat × TS) → Sl → Addr → List Str → List D → Prop
  | [], Γ, C, ns, ds => κ.ex Γ C ns ds
  | (v, none, ts) :: r, Γ, C, ns, ds => ∃ b, PySem.W.exmOne c.K (.ref C) v = some b ∧ (b = true → B c Γ ts { nx := κ.nx, rt := κ.rt, bk := κ.bk, ct := κ.ct }) ∧ (b = false → HsOk c κ r Γ C ns ds)
  | (v, some i, ts) :: r, Γ, C, ns, ds => ∃ b, PySem.W.exmOne c.K (.ref C) v = some b ∧ (b = true → B c (Γ.set i (some (.im (.exn C ns ds)))) ts { nx := fun Γ' => κ.nx (Γ'.set i none), rt := κ.rt, bk := fun Γ' => κ.bk (Γ'.set i none), ct := fun Γ' => κ.ct (Γ'.set i none) }) ∧ (b = false → HsOk c κ r Γ C ns ds)
theorem Lo.unset {K : PySem.W.Frag} {I H : Hp} {σ : St} {as : Nat → Addr} {i : Nat} (h : Lo K I σ H as Γ) : Lo K I (σ.set i none) H as (Γ.set i none) := by
  refine ⟨fun j s e => ?_, fun j k d e a b => ?_, by simp [h.len]⟩
  · rcases set_get e with ⟨_, e'⟩ | ⟨ne, e'⟩
    · cases e'
    · have q := h.at_ j s e'
      cases s with
      | im d => obtain ⟨w, e1, r1⟩ := q; exact ⟨w, by rw [List.getElem?_set_ne (Ne.symm ne)]; exact e1, r1⟩
      | mu d => obtain ⟨e1, r1⟩ := q; exact ⟨by rw [List.getElem?_set_ne (Ne.symm ne)]; exact e1, r1⟩
  · rcases set_get a with ⟨_, e'⟩ | ⟨_, a'⟩
    · cases e'
    · rcases set_get b with ⟨_, e'⟩ | ⟨_, b'⟩
      · cases e'
      · exact h.ne j k d e a' b'
theorem At.unset {I H : Hp} {σ : St} {as : Nat → Addr} {i : Nat} (a : At c I σ H as Γ) : At c I (σ.set i none) H as (Γ.set i none) :=
  ⟨a.gr, a.lo.unset, fun j d h => by
    rcases set_get h with ⟨_, e'⟩ | ⟨_, e'⟩
    · cases e'
    · exact a.ok j d e', a.fix⟩
/-- the exception and its dict are among what stays -/
theorem At.caught {I H : Hp} {σ : St} {as : Nat → Addr} {C dx x : Addr} {ns : List Str} (a : At c I σ H as Γ) (hd : XdAt c.K I H c.H dx ns ds) (hx : H x = none) :
    ∃ I', Ex I I' ∧ At c I' σ (upd H x (exx x (.ref C) (some dx))) as Γ ∧ Rp c.K I' (.ref x) (.exn C ns ds) := by
  obtain ⟨⟨vs, hv, hl, hr⟩, ni, n0⟩ := hd
  have e1 : Ex I (upd I dx (.xd (ns.zip vs))) := Ex.new ni
  have g1 : Gr (c.m.map (·.2)) c.I c.H (upd I dx (.xd (ns.zip vs))) H := a.gr.frz ni n0 hv
  have a1 : At c (upd I dx (.xd (ns.zip vs))) σ H as Γ := by
    refine ⟨g1, ⟨fun i s hs => ?_, a.lo.ne, a.lo.len⟩, a.ok, a.fix⟩
    have q := a.lo.at_ i s hs
    cases s with
    | im d => obtain ⟨v, h1, h2⟩ := q; exact ⟨v, h1, h2.mono e1⟩
    | mu d =>
      obtain ⟨h1, h2, o, h3, h4⟩ := q
      refine ⟨h1, ?_, o, h3, h4.mono e1⟩
      have : as i ≠ dx := fun z => by
        rw [z, hv] at h3
        cases h3
        cases h4
      rw [upd_ne this]; exact h2
  have g2 := Gr.new (m := []) (o := exx x (.ref C) (some dx)) g1.ih hx
  refine ⟨_, e1.trans g2.i, a1.mono g2, .exn (xs := vs) (.inr upd_same) (.inr ?_) hl (hr.mono (e1.trans g2.i))⟩
  have : dx ≠ x := fun z => by rw [z, hx] at hv; cases hv
  rw [upd_ne this]; exact upd_same
theorem b_try {tb : WX → TS} {l : List (Value × Option Nat × TS)} (h : ∀ W, B { c with W := W } Γ (tb W) { κ with ex := HsOk c κ l }) : B c Γ (fun D σ H => tb (wMix c.K c.W D l) D σ H) κ := fun lb I σ H as De e a k => by
  refine h (wMix c.K c.W De l) lb I σ H as De e ⟨a.gr, a.lo, a.ok, a.fix⟩ ⟨fun I1 σ1 H1 as1 Γ1 hk e1 a1 => k.nx I1 σ1 H1 as1 Γ1 hk e1 ⟨a1.gr, a1.lo, a1.ok, a1.fix⟩, k.rt, fun I1 σ1 H1 as1 Γ1 hk e1 a1 => k.bk I1 σ1 H1 as1 Γ1 hk e1 ⟨a1.gr, a1.lo, a1.ok, a1.fix⟩,
    fun I1 σ1 H1 as1 Γ1 hk e1 a1 => k.ct I1 σ1 H1 as1 Γ1 hk e1 ⟨a1.gr, a1.lo, a1.ok, a1.fix⟩, ?_⟩
  intro I1 σ1 H1 as1 Γ1 C ns ds dx hx e1 a0 hd
  have a1 : At c I1 σ1 H1 as1 Γ1 := ⟨a0.gr, a0.lo, a0.ok, a0.fix⟩
  show wMix c.K c.W De l (.ref C) (some dx) σ1 H1
  have hx' : HsOk c κ l Γ1 C ns ds := hx
  have hd' : XdAt c.K I1 H1 c.H dx ns ds := hd
  clear hx h hd a0
  have hd := hd'
  induction l with
  | nil => exact k.ex I1 σ1 H1 as1 Γ1 C ns ds dx hx' e1 a1 hd
  | cons p r ih =>
    obtain ⟨v, i, ts⟩ := p
    cases i with
    | none =>
      obtain ⟨b, hb, ht, hf⟩ := hx'
      refine ⟨b, hb, fun bt x hxn => ?_, fun bf => ih (hf bf)⟩
      obtain ⟨I2, e2, a2, _⟩ := a1.caught (C := C) hd hxn
      exact ht bt lb I2 σ1 _ as1 De (e1.trans e2) a2 ⟨k.nx, k.rt, k.bk, k.ct, fun _ _ _ _ _ _ _ _ _ h => h.elim⟩
    | some i =>
      obtain ⟨b, hb, ht, hf⟩ := hx'
      refine ⟨b, hb, fun bt x hxn => ?_, fun bf => ih (hf bf)⟩
      obtain ⟨I2, e2, a2, r2⟩ := a1.caught (C := C) hd hxn
      exact ht bt lb I2 _ _ as1 _ (e1.trans e2) (a2.set r2) ⟨fun I3 σ3 H3 as3 Γ3 h3 e3 a3 => k.nx I3 _ H3 as3 _ h3 e3 a3.unset, k.rt, fun I3 σ3 H3 as3 Γ3 h3 e3 a3 => k.bk I3 _ H3 as3 _ h3 e3 a3.unset,
        fun I3 σ3 H3 as3 Γ3 h3 e3 a3 => k.ct I3 _ H3 as3 _ h3 e3 a3.unset, fun _ _ _ _ _ _ _ _ _ h => h.elim⟩
end
/-! ### such a def of the text -/
structure CalleeX (P : Program) (w : World) (K : PySem.W.Frag) (mg : Str → Option Value) (base : Heap) (x : Str) (k : Nat) (ps : List Str) (R : List D → Out → Prop) : Prop where
  ex : ∃ f fd, FnOk P w K mg base (L2.CX P w) k f fd ps (spX K R) ∧ mg x = some (.ref f) ∧ PySem.W.keepIn K (.ref f) = true ∧ Binds K fd ps []
theorem ok_ofX {P : Program} {w : World} {K : PySem.W.Frag} {mg : Str → Option Value} {base : Heap} {x qual : Str} {st : Stmt} {f : Addr} {fd : FuncData} {N ps : List Str} {k : Nat} {R : List D → Out → Prop} (F : Fun K x qual st f fd) (S : FnScope N ps (defScope st)) (hn : ∀ ds o, R ds o → ds.length = ps.length)
    (hb : ∀ (cdv : Value) (A : Around) (outer : List Env) (s : Shared) (H : Hp) (E : XK), Room k (A.deeper (PyProof.Rows.envOfC qual (defScope st) s.heap.objs.size f cdv)) →
      ∃ t, PSs (cxOf (L2.CX P w) P w K mg base N qual (defScope st) f cdv A outer s H E) (defBody st) t ∧ ∀ (I H' : Hp) ds o, R ds o → B ⟨K, I, H', [], fun cls d _ H => E cls d H⟩ (slots N ds) t { nx := fun _ => R ds (.ok .non), rt := fun e _ => R ds (.ok e), ex := fun _ C ns es => R ds (.ex C ns es) }) :
    FnOk P w K mg base (L2.CX P w) (k + 1) f fd ps (spX K R) := by
  refine F.okX S (fun vs H Q E h => ?_) (fun cdv A outer s H vs Q E hr h => ?_)
  · obtain ⟨I, ds, _, r, ⟨o, hR⟩, _⟩ := h
    rw [r.length]; exact hn ds o hR
  · obtain ⟨I, ds, e, r, ⟨o, hR⟩, q, qx⟩ := h
    obtain ⟨t, ht, hB⟩ := hb cdv A outer s H E hr
    have nomu : ∀ (i : Nat) (d : D), (slots N ds)[i]? ≠ some (some (SV.mu d)) := fun i d h => by
      unfold slots at h
      rw [List.getElem?_append] at h
      split at h
      · rw [List.getElem?_map] at h
        cases q : ds[i]? with
        | none => rw [q] at h; cases h
        | some x => rw [q] at h; cases h
      · obtain ⟨a, b⟩ := List.getElem?_eq_some_iff.mp h
        rw [List.getElem_replicate] at b
        cases b
    exact ⟨t, ht, hB I H ds o hR I I _ H (fun _ => 0) _ (Ex.refl _) ⟨Gr.refl e, lo_start r, fun i d h => absurd h (nomu i d), fun p hp => nomatch hp⟩
      ⟨fun I1 σ1 H1 as Γ1 h1 _ a1 => q .non h1 I1 H1 .non a1.gr .non, fun I1 H1 Γ1 v e1 h1 _ g1 r1 _ => q e1 h1 I1 H1 v g1 r1, fun _ _ _ _ _ h => h.elim, fun _ _ _ _ _ h => h.elim, fun I1 σ1 H1 as Γ1 C ns es dx hx _ a1 hd => qx C ns es hx I1 H1 dx a1.gr hd⟩⟩
theorem ok_defX {P : Program} {w : World} {K : PySem.W.Frag} {mg : Str → Option Value} {base : Heap} {x qual : Str} {st : Stmt} {N ps : List Str} {k : Nat} {R : List D → Out → Prop} (F : DefAt K mg x qual st ps) (S : FnScope N ps (defScope st)) (hn : ∀ ds o, R ds o → ds.length = ps.length)
    (hb : ∀ (f : Addr) (cdv : Value) (A : Around) (outer : List Env) (s : Shared) (H : Hp) (E : XK), Room k (A.deeper (PyProof.Rows.envOfC qual (defScope st) s.heap.objs.size f cdv)) →
      ∃ t, PSs (cxOf (L2.CX P w) P w K mg base N qual (defScope st) f cdv A outer s H E) (defBody st) t ∧ ∀ (I H' : Hp) ds o, R ds o → B ⟨K, I, H', [], fun cls d _ H => E cls d H⟩ (slots N ds) t { nx := fun _ => R ds (.ok .non), rt := fun e _ => R ds (.ok e), ex := fun _ C ns es => R ds (.ex C ns es) }) :
    CalleeX P w K mg base x (k + 1) ps R := by
  obtain ⟨f, fd, F1, hm, b⟩ := F.ex
  exact ⟨f, _, ok_ofX F1 S hn (hb f), hm, F1.kp, b⟩
section
variable {X : Cx} {P : Program} {w : World} (K : PySem.W.Frag) {mg : Str → Option Value} {base : Heap} {x : Str} {C : Addr} {j k : Nat} {ps : List Str} {sp : Sp} {R : List D → Out → Prop} {p pos : Pos} {e : Expr} {es : List Expr} {t : TA} {W : WX}
theorem k_callX (c : CalleeX P w K mg base x k ps R) (hr : Room j X.A) (hk : k ≤ j) (tk : Takes X W) (hg : Gl X x) (ha : PA X (e :: es) t) (hdb : (x == ("__debug__" : Str)) = false := by decide)
    (he : starEach (e :: es) X.env = (false, eval e X.env) :: starEach es X.env := by rfl) (hpl : (backTo pos (starEach es X.env)).any (·.1) = false := by rfl)
    (hX : X.prog = P ∧ X.w = w ∧ X.K = K ∧ X.mg = mg ∧ X.base = base := by exact ⟨rfl, rfl, rfl, rfl, rfl⟩) :
    PE X (.Call (.Name x p) (e :: es) [] pos) (tCallS (spX K R) (WE W) t) := by
  obtain ⟨rfl, rfl, rfl, rfl, rfl⟩ := hX
  obtain ⟨f, fd, F, hm, kp, b⟩ := c.ex
  exact pe_callS F (hr.mono hk) hg hm kp b (passAt tk) ha hdb he hpl
theorem k_mkx (c : XCallee P w K mg base x C ps sp) (hr : Room j X.A) (hk : 2 ≤ j) (hg : Gl X x) (ha : PA X (e :: es) t) (hdb : (x == ("__debug__" : Str)) = false := by decide)
    (he : starEach (e :: es) X.env = (false, eval e X.env) :: starEach es X.env := by rfl) (hpl : (backTo pos (starEach es X.env)).any (·.1) = false := by rfl) (hx : Passes CX0 X E0 := by exact pass0)
    (hX : X.prog = P ∧ X.w = w ∧ X.K = K ∧ X.mg = mg ∧ X.base = base := by exact ⟨rfl, rfl, rfl, rfl, rfl⟩) :
    PMk X (.Call (.Name x p) (e :: es) [] pos) (tMkO C sp [] t) := by
  obtain ⟨rfl, rfl, rfl, rfl, rfl⟩ := hX
  obtain ⟨fI, fd, iC, tI, F, b⟩ := c.ex
  exact pmk_oex (ds := []) c.oc iC tI F (hr.mono hk) b .nil hx hg c.mg ha hdb he hpl
end
end G

namespace G
open PySem PySem.Spec L2
/-! ### instances of the program's own classes: fields -/
/-- e.f of an instance or an exception -/
def tAt (K : PySem.W.Frag) (te : TE) (f : Str) : TE := fun σ H Q => tFld K te f σ H Q ∨ tXv K te f σ H Q
section
variable {X : Cx} (K : PySem.W.Frag) {e o : Expr} {te tv : TE} {n f : Str} {pos pos' : Pos}
theorem k_at (he : PE X e te) (hb : attributeBase e n X.env (eval e X.env) = eval e X.env := by rfl) (hK : X.K = K := by rfl) : PE X (.Attribute e n pos) (tAt K te n) := by
  subst hK
  refine ⟨fun pins s σ H Q I h => ?_⟩
  rcases h with h | h
  · exact (pe_fld he hb).run pins s σ H Q I h
  · exact (pe_xv he hb).run pins s σ H Q I h
theorem k_setf {value : Expr} (ha : PE X o te) (hv : PE X value tv) (hs : swapsWith value (some (.Attribute o f pos')) pos.line X.env = pure false := by rfl) (hK : X.K = K := by rfl) : PS X (.Assign [.Attribute o f pos'] value pos) (sFld K te tv f) := by
  subst hK; exact ps_fld ha hv hs
end
section
variable {K : PySem.W.Frag} {Γ : Sl} {te : TE} {d : D} {C : Addr} {f : Str} {ns : List Str} {ds : List D} {ζ : Xz}
theorem e_at (h : E K Γ te (.obj C ns ds)) (c : Cls K C) (n : NoAttr K C f) (hl : (ns.zip ds).lookup f = some d) : E K Γ (tAt K te f) d := fun I σ H as e l Q q => by
  refine .inl (h I σ H as e l _ fun I1 H1 v g1 r1 => ?_)
  cases r1 with
  | obj h1 hn hr =>
    obtain ⟨v, hv, rv⟩ := lk_zip hr hl
    exact ⟨_, C, _, _, v, rfl, g1.ih _ _ h1, c, n, hv, q I1 H1 v g1 rv⟩
/-- a field of an instance that may change -/
theorem e_atM {i : Nat} (hi : Γ[i]? = some (some (.mu (.obj C ns ds)))) (c : Cls K C) (n : NoAttr K C f) (hl : (ns.zip ds).lookup f = some d) : E K Γ (tAt K (tVar i) f) d := fun I σ H as e l Q q => by
  obtain ⟨hv, hn, o, ho, r⟩ := l.at_ i _ hi
  cases r with
  | ins hl2 hr =>
    obtain ⟨v, hv2, rv⟩ := lk_zip hr hl
    exact .inl ⟨_, hv, _, C, _, _, v, rfl, ho, c, n, hv2, q I H v (Gr.refl e) rv⟩
theorem e_atX {fl : List Str} (h : E K Γ te (.exn C ns ds)) (x : XOk' K C fl) (hf : f ∈ fl) (hl : (ns.zip ds).lookup f = some d) : E K Γ (tAt K te f) d := fun I σ H as e l Q q => .inr (e_xv h x hf hl I σ H as e l Q q)
theorem putF_new {f : Str} {y : V} : ∀ {ns : List Str} {vs : List V}, ns.length = vs.length → f ∉ ns → putF f y (ns.zip vs) = (ns ++ [f]).zip (vs ++ [y])
  | [], [], _, _ => rfl
  | [], _ :: _, h, _ => by cases h
  | _ :: _, [], h, _ => by cases h
  | n :: ns, v :: vs, h, hf => by
    rw [List.zip_cons_cons, List.cons_append, List.cons_append, List.zip_cons_cons, ← putF_new (by simpa using h) (fun z => hf (List.mem_cons_of_mem _ z))]
    show (if n = f then _ else _) = _
    rw [if_neg (fun z : n = f => hf (by rw [← z]; exact List.mem_cons_self))]
end
section
variable {c : Cz} {Γ : Sl} {κ : Ks} {d : D} {ds : List D} {C : Addr} {ns : List Str} {f : Str} {tv : TE}
/-- self.f = e, a new field -/
theorem b_setf {i : Nat} (hi : Γ[i]? = some (some (.mu (.obj C ns ds)))) (cl : Cls c.K C) (n : NoAttr c.K C f) (hf : f ∉ ns) (hl : ns.length < 1000) (h : E c.K Γ tv d) (k : κ.nx (Γ.set i (some (.mu (.obj C (ns ++ [f]) (ds ++ [d])))))) : B c Γ (sFld c.K (tVar i) tv f) κ := fun lb I σ H as De e a q => by
  refine h I σ H as a.gr.ih a.lo _ fun I1 H1 y g r1 => ?_
  have a1 := a.mono g
  obtain ⟨hv, hn, o, ho, r⟩ := a1.lo.at_ i _ hi
  cases r with
  | ins hl2 hr =>
    rename_i dx vs
    refine ⟨_, hv, _, C, _, _, rfl, ho, cl, n, ?_, ?_⟩
    · rw [List.length_zip, ← hl2, Nat.min_self]; exact hl
    · rw [putF_new hl2 hf]
      exact q.nx I1 _ _ as _ k (e.trans g.i) (a1.put hi (.ins (by rw [List.length_append, List.length_append, hl2]; rfl) (hr.append (.one r1))))
end
/-! ### making an instance, its methods, where exceptions may leave -/
def tMakeS (C : Addr) (sp : Sp) (dvs : List V) (E : St → XK) (t : TA) : TE := fun σ H Q => t σ H fun vs H1 => ∀ x dx, H1 x = none → H1 dx = none → dx ≠ x →
  sp (.ref x :: (vs ++ dvs)) (upd (upd H1 dx (.own x)) x (.ins C dx [])) (fun v H2 => v = .non ∧ Q (.ref x) H2) (E σ)
def tMethS (C : Addr) (m : Str) (sp : Sp) (E : St → XK) (ta : TE) (t : TA) : TE := fun σ H Q => ta σ H fun x H1 => ∃ a dx fs, x = .ref a ∧ H1 a = some (.ins C dx fs) ∧ fs.lookup m = none ∧
  t σ H1 fun vs H2 => sp (x :: vs) H2 Q (E σ)
section
variable {X : Cx} {CX : CXT} {k : Nat} {f C : Addr} {fd : FuncData} {ps : List Str} {sp : Sp} {dvs : List V} {ds : List Value} {E : St → XK} {x m : Str} {p pos apos : Pos} {e o : Expr} {es : List Expr} {ta : TE} {t : TA}
theorem run_makeS {pins : List (Addr × Obj)} {σ : L2.St} {H : Hp} {s : Shared} {Q : VK} {us : List Value} {vs : List V} (M : Mk X.K C f) (F : FnOk X.prog X.w X.K X.mg X.base CX k f fd ps sp) (hr : Room (k + 1) X.A) (hb : Binds X.K fd ps ds) (hd : Vals dvs ds)
    (hx : PassesAt CX X σ (E σ)) (I : Inv X pins σ H s) (r : Vals vs us)
    (h : ∀ x dx, H x = none → H dx = none → dx ≠ x → sp (.ref x :: (vs ++ dvs)) (upd (upd H dx (.own x)) x (.ins C dx [])) (fun v H2 => v = .non ∧ Q (.ref x) H2) (E σ)) :
    wpAny (model X.prog X.w) X.A (call (.ref C) us) (L2.EP X pins σ Q) X.xe s := by
  have hq := h (s.heap.objs.size + 1) s.heap.objs.size (I.hok.fresh (Nat.le_succ _)) (I.hok.fresh (Nat.le_refl _)) (Nat.ne_of_lt (Nat.lt_succ_self _))
  have I2 := Inv.made (C := C) I
  have r2 : Vals (V.ref (s.heap.objs.size + 1) :: (vs ++ dvs)) (Value.ref (s.heap.objs.size + 1) :: (us ++ ds)) := .cons rfl (r.append hd)
  have hl : (Value.ref (s.heap.objs.size + 1) :: us ++ ds).length = ps.length := by
    have e := r2.length
    rw [F.len _ _ _ _ hq] at e
    exact e.symm
  refine wpAny_call (make_map (f := f) I.kIn M.makes M.init (beq_iff_eq.mp M.fn) (codeAny_mono (F.run _ X.stack _ _ ⟨Value.ref (s.heap.objs.size + 1) :: us, []⟩ (Value.ref (s.heap.objs.size + 1) :: (us ++ ds)) _ _ (E σ) (hr.make C us [])
    (I2.env0.make C us []) (hb _ (Value.ref (s.heap.objs.size + 1) :: us) I2.kIn hl) r2 hq) fun r s' hq' => ?_))
  cases r with
  | error e => exact hx pins _ _ e s' I2 hq'
  | ok fl =>
    cases fl with
    | ret u =>
      obtain ⟨v, H', I3, rv, ev, q3⟩ := I2.after hq'
      subst ev
      exact ⟨rv, ⟨V.ref (s.heap.objs.size + 1), H', I3, rfl, q3⟩⟩
    | next => exact False.elim hq'
    | brk => exact False.elim hq'
    | cont => exact False.elim hq'
theorem pe_makeS (M : Mk X.K C f) (F : FnOk X.prog X.w X.K X.mg X.base CX k f fd ps sp) (hr : Room (k + 1) X.A) (hg : Gl X x) (hm : X.mg x = some (.ref C)) (hb : Binds X.K fd ps ds) (hd : Vals dvs ds) (hx : ∀ σ, PassesAt CX X σ (E σ))
    (ha : PA X (e :: es) t) (hdb : (x == ("__debug__" : Str)) = false := by decide) (he : starEach (e :: es) X.env = (false, eval e X.env) :: starEach es X.env := by rfl) (hpl : (backTo pos (starEach es X.env)).any (·.1) = false := by rfl) :
    PE X (.Call (.Name x p) (e :: es) [] pos) (tMakeS C sp dvs E t) := by
  refine ⟨fun pins s σ H Q I h => ?_⟩
  refine wpAny_Call_Name_kw (ld_glob I hg hm ?_ hdb)
  refine PySem.W.callWith_K (h₀ := X.base) I.ok.mod.kin M.kp (thn (ha.run pos pins s σ H _ I h) fun us s1 ⟨vs, H1, I1, r, q⟩ => ⟨I1.kIn, ?_⟩) he hpl
  exact run_makeS M F hr hb hd (hx σ) I1 r q
theorem pe_methS {pl : Sem Bool} (he : PE X o ta) (c : Cls X.K C) (hm : Meth X.K C m f) (F : FnOk X.prog X.w X.K X.mg X.base CX k f fd ps sp) (hr : Room k X.A) (hb : Binds X.K fd ps []) (hx : ∀ σ, PassesAt CX X σ (E σ)) (ha : PA X (e :: es) t)
    (hst : starEach (e :: es) X.env = (false, eval e X.env) :: starEach es X.env := by rfl) (hpl : (backTo pos (starEach es X.env)).any (·.1) = false := by rfl)
    (ht : eval (.Call (.Attribute o m apos) (e :: es) [] pos) X.env = (do
      let ov ← eval o X.env
      standAt apos.atName
      let (f, first) ← holding [ov] (getMethod ov m pl)
      callWith pos f first (backTo pos (starEach (e :: es) X.env)) (backToKw pos (keywordEach [] X.env))) := by rfl) :
    PE X (.Call (.Attribute o m apos) (e :: es) [] pos) (tMethS C m sp E ta t) := by
  refine ⟨fun pins s σ H Q I h => ?_⟩
  refine PySem.W.methodCall_KW (pl := pl) (thn (he.run pins s σ H _ I h) fun u s1 ⟨x, H1, I1, rx, a, dx, fs, ex, ea, l, q⟩ => ?_) ht
  subst ex
  obtain rfl : u = Value.ref a := rx
  refine getmeth_ok I1 ea c hm l ?_
  refine PySem.W.callWith_K (first := [.ref a]) (h₀ := X.base) I.ok.mod.kin hm.kp (thn (ha.run pos pins s1 σ H1 _ I1 q) fun us s2 ⟨vs, H2, I2, r, q2⟩ => ⟨I2.kIn, ?_⟩) hst hpl
  exact run_fnS (us := .ref a :: us) (vs := .ref a :: vs) F hr hb (hx σ) I2 (.cons rfl r) q2
theorem pe_methS0 {pl : Sem Bool} (he : PE X o ta) (c : Cls X.K C) (hm : Meth X.K C m f) (F : FnOk X.prog X.w X.K X.mg X.base CX k f fd ps sp) (hr : Room k X.A) (hb : Binds X.K fd ps []) (hx : ∀ σ, PassesAt CX X σ (E σ))
    (ht : eval (.Call (.Attribute o m apos) [] [] pos) X.env = (do
      let ov ← eval o X.env
      standAt apos.atName
      let (f, first) ← holding [ov] (getMethod ov m pl)
      callWith pos f first (backTo pos (starEach [] X.env)) (backToKw pos (keywordEach [] X.env))) := by rfl) :
    PE X (.Call (.Attribute o m apos) [] [] pos) (tMethS C m sp E ta tNil) := by
  refine ⟨fun pins s σ H Q I h => ?_⟩
  refine PySem.W.methodCall_KW (pl := pl) (thn (he.run pins s σ H _ I h) fun u s1 ⟨x, H1, I1, rx, a, dx, fs, ex, ea, l, q⟩ => ?_) ht
  subst ex
  obtain rfl : u = Value.ref a := rx
  refine getmeth_ok I1 ea c hm l ?_
  exact PySem.W.callWith_K0 (first := [.ref a]) I1.kIn hm.kp (run_fnS (us := [.ref a]) (vs := [.ref a]) F hr hb (hx σ) I1 (.cons rfl .nil) q)
end
end G

namespace G
open PySem PySem.Spec L2
/-- what an own __init__ keeps: R tells of the arguments the instance made, or what is raised -/
def spM (K : PySem.W.Frag) (C : Addr) (R : List D → Out → Prop) : Sp := fun vs H Q E => ∃ (I : Hp) (x : Addr) (rest : List V) (ds : List D) (dx : Addr), vs = .ref x :: rest ∧ Ex I H ∧ I x = none ∧ H x = some (.ins C dx []) ∧ Rps K I rest ds ∧ (∃ o, R ds o) ∧
  (∀ ns es, R ds (.ok (.obj C ns es)) → ∀ I' H' dx' vs', Gr [x] I H I' H' → I' x = none → H' x = some (.ins C dx' (ns.zip vs')) → ns.length = vs'.length → Rps K I' vs' es → Q .non H') ∧
  (∀ C' ns es, R ds (.ex C' ns es) → ∀ I' H' d', Gr [x] I H I' H' → XdAt K I' H' H d' ns es → E (.ref C') (some d') H')
section
variable {ζ : Xz} {Γ : Sl} {k : D → Prop} {C : Addr} {m : Str} {ns : List Str} {es : List D} {te : TE} {ta : TA}
theorem Gr.made {I H I' H' : Hp} {x dx : Addr} {o u : HO} (hx : H x = none) (hd : H dx = none) (g : Gr [x] I (upd (upd H dx u) x o) I' H') (e : Ex I H) : Gr [] I H I' H' where
  i := g.i
  ih := g.ih
  h := fun a v _ q => by
    have na : a ≠ x := ne_of_none q hx
    have nd : a ≠ dx := ne_of_none q hd
    exact g.h a v (by simpa using na) (by rw [upd_ne na, upd_ne nd]; exact q)
  th := fun a q => g.th a (by
    have na : a ≠ x := fun z => q (z ▸ hx)
    have nd : a ≠ dx := fun z => q (z ▸ hd)
    rw [upd_ne na, upd_ne nd]; exact q)
  fr := fun a q => g.fr a (by
    have na : a ≠ x := fun z => q (z ▸ hx)
    have nd : a ≠ dx := fun z => q (z ▸ hd)
    rw [upd_ne na, upd_ne nd]; exact q)
theorem en_makeX {R : List D → Out → Prop} {dvs : List V} {dds : List D} (hd : ∀ I, Rps ζ.K I dvs dds) (h : EAN ζ Γ ta fun ds => (∃ o, R (ds ++ dds) o) ∧ (∀ ns es, R (ds ++ dds) (.ok (.obj C ns es)) → k (.obj C ns es)) ∧ ∀ C' ns es, R (ds ++ dds) (.ex C' ns es) → ζ.x C' ns es) :
    EN ζ Γ (tMakeS C (spM ζ.K C R) dvs (WE ζ.W) ta) k := fun I σ H as e l zz Q q =>
  h I σ H as e l zz _ fun I1 H1 vs ds h1 g1 r1 x dx hx hdx hne => by
    have ex0 : Ex I1 (upd (upd H1 dx (.own x)) x (.ins C dx [])) := (g1.ih.trans (Ex.new hdx)).trans (Ex.new (by rw [upd_ne (Ne.symm hne)]; exact hx))
    refine ⟨I1, x, vs ++ dvs, ds ++ dds, dx, rfl, ex0, g1.ih.free hx, upd_same, r1.append (hd I1), h1.1, fun ns es hR I' H' dx' vs' g ni hH hl hr => ⟨rfl, ?_⟩, fun C' ns es hR I' H' d' g hx' => ?_⟩
    · have g2 := Gr.made hx hdx g g1.ih
      have g3 := (g1.trans g2).frz ni (g1.ex.free hx) hH
      exact q _ H' (.ref x) _ (h1.2.1 ns es hR) g3 (.obj upd_same hl (hr.mono (Ex.new ni)))
    · refine zz I' H' C' ns es d' (h1.2.2 C' ns es hR) (g1.trans (Gr.made hx hdx g g1.ih)) (hx'.back fun a ha => ?_)
      have na : a ≠ x := fun z => ha (z ▸ g1.ex.free hx)
      have nd : a ≠ dx := fun z => ha (z ▸ g1.ex.free hdx)
      rw [upd_ne na, upd_ne nd]
      exact g1.th a ha
theorem lk_none {α : Type} {m : Str} : ∀ {ns : List Str} {vs : List α}, m ∉ ns → (ns.zip vs).lookup m = none
  | [], _, _ => by simp
  | _ :: _, [], _ => by simp
  | n :: ns, v :: vs, h => by
    rw [List.zip_cons_cons, lk_put, if_neg (fun z : m = n => h (by rw [z]; exact List.mem_cons_self))]
    exact lk_none fun z => h (List.mem_cons_of_mem _ z)
/-- o.m(..) -/
theorem en_methX {R : List D → Out → Prop} (h : EN ζ Γ te fun o => ∃ ns es, o = .obj C ns es ∧ m ∉ ns ∧ EAN ζ Γ ta fun ds => (∃ r, R (o :: ds) r) ∧ (∀ d, R (o :: ds) (.ok d) → k d) ∧ ∀ C' ns es, R (o :: ds) (.ex C' ns es) → ζ.x C' ns es) :
    EN ζ Γ (tMethS C m (spX ζ.K R) (WE ζ.W) te ta) k := fun I σ H as e l zz Q q =>
  h I σ H as e l zz _ fun I1 H1 v o h1 g1 r1 => by
    obtain ⟨ns, es, rfl, hm, h2⟩ := h1
    cases r1 with
    | obj ha hl hr =>
      refine ⟨_, _, _, rfl, g1.ih _ _ ha, lk_none hm, ?_⟩
      refine h2 I1 σ H1 as g1.ih (l.mono g1) (zz.mono g1) _ fun I2 H2 vs ds h3 g2 r2 => ?_
      refine ⟨I2, _, g2.ih, .cons (.obj (g2.i _ _ ha) hl (hr.mono g2.i)) r2, h3.1, fun d hd I3 H3 v g3 r3 => q I3 H3 v d (h3.2.1 d hd) ((g1.trans g2).trans g3) r3, fun C' ns' es' hx I3 H3 dx g3 x3 => ?_⟩
      exact zz I3 H3 C' ns' es' dx (h3.2.2 C' ns' es' hx) ((g1.trans g2).trans g3) (x3.back (g1.trans g2).th)
theorem Gr.unf {I I1 I' H H' : Hp} (g : Gr [] I1 H I' H') (e : Ex I I1) : Gr [] I H I H' := ⟨Ex.refl I, (e.trans g.i).trans g.ih, g.h, g.th, fun _ _ => rfl⟩
theorem Rps.flat {K : PySem.W.Frag} {I I' : Hp} : ∀ {vs : List V} {ds : List D}, Rps K I vs ds → (∀ d ∈ ds, flat d = true) → Rps K I' vs ds
  | _, _, .nil, _ => .nil
  | _, _, .cons r rs, h => .cons (r.flat (h _ List.mem_cons_self)) (Rps.flat rs fun d hd => h d (List.mem_cons_of_mem _ hd))
/-- self.m(..), self may still change; what comes back is flat -/
theorem en_methM {R : List D → Out → Prop} {i : Nat} (hi : Γ[i]? = some (some (.mu (.obj C ns es)))) (hm : m ∉ ns)
    (h : EAN ζ Γ ta fun ds => (∃ r, R (.obj C ns es :: ds) r) ∧ (∀ d, R (.obj C ns es :: ds) (.ok d) → flat d = true ∧ k d) ∧ ∀ C' ns' es', R (.obj C ns es :: ds) (.ex C' ns' es') → (∀ e ∈ es', flat e = true) ∧ ζ.x C' ns' es') :
    EN ζ Γ (tMethS C m (spX ζ.K R) (WE ζ.W) (tVar i) ta) k := fun I σ H as e l zz Q q => by
  obtain ⟨hv, hn, o, ho, r⟩ := l.at_ i _ hi
  cases r with
  | ins hl hr =>
    rename_i dx0 vs0
    refine ⟨_, hv, _, _, _, rfl, ho, lk_none hm, ?_⟩
    refine h I σ H as e l zz _ fun I1 H1 ws ds h3 g1 r2 => ?_
    have n1 : I1 (as i) = none := g1.none_i hn (by rw [ho]; exact nofun)
    have ho1 := g1.ex _ _ ho
    have e2 : Ex I1 (upd I1 (as i) (.ins C dx0 (ns.zip vs0))) := Ex.new n1
    have ih2 : Ex (upd I1 (as i) (.ins C dx0 (ns.zip vs0))) H1 := fun a u q => by
      by_cases z : a = as i
      · subst z; rw [upd_same] at q; rw [← q]; exact ho1
      · rw [upd_ne z] at q; exact g1.ih a u q
    refine ⟨_, _, ih2, .cons (.obj upd_same hl ((hr.mono g1.i).mono e2)) (r2.mono e2), h3.1, fun d hd I3 H3 v g3 r3 => ?_, fun C' ns' es' hx I3 H3 dx g3 x3 => ?_⟩
    · obtain ⟨fd, kd⟩ := h3.2.1 d hd
      exact q I1 H3 v d kd (g1.trans (g3.unf e2)) (r3.flat fd)
    · obtain ⟨fe, kx⟩ := h3.2.2 C' ns' es' hx
      obtain ⟨⟨ws', a1, a2, a3⟩, ni, n0⟩ := x3
      refine zz I1 H3 C' ns' es' dx kx (g1.trans (g3.unf e2)) (XdAt.back ⟨⟨ws', a1, a2, a3.flat fe⟩, (e2.trans g3.i).free ni, n0⟩ g1.th)
end
/-! ### such defs of the text -/
theorem FnOk.up {P : Program} {w : World} {K : PySem.W.Frag} {mg : Str → Option Value} {base : Heap} {CX : CXT} {k : Nat} {f : Addr} {fd : FuncData} {ps : List Str} {sp : Sp} (F : FnOk P w K mg base CX0 k f fd ps sp) : FnOk P w K mg base CX k f fd ps sp :=
  ⟨F.len, fun A outer s H args us vs Q E hr he hb r h => codeAny_mono (F.run A outer s H args us vs Q E hr he hb r h) fun r s' hq => by
    cases r with
    | error e => exact hq.elim
    | ok fl => cases fl <;> exact hq⟩
structure MCallee (P : Program) (w : World) (K : PySem.W.Frag) (mg : Str → Option Value) (base : Heap) (x : Str) (C : Addr) (k : Nat) (ps : List Str) (dvs : List V) (R : List D → Out → Prop) : Prop where
  ex : ∃ f fd ds, Mk K C f ∧ FnOk P w K mg base (L2.CX P w) k f fd ps (spM K C R) ∧ Binds K fd ps ds ∧ Vals dvs ds
  mg : mg x = some (.ref C)
structure Method (P : Program) (w : World) (K : PySem.W.Frag) (mg : Str → Option Value) (base : Heap) (C : Addr) (m : Str) (k : Nat) (ps : List Str) (R : List D → Out → Prop) : Prop where
  cl : Cls K C
  ex : ∃ f fd, Meth K C m f ∧ FnOk P w K mg base (L2.CX P w) k f fd ps (spX K R) ∧ Binds K fd ps []
section
variable {X : Cx} {P : Program} {w : World} (K : PySem.W.Frag) {mg : Str → Option Value} {base : Heap} {x m : Str} {C : Addr} {j k : Nat} {ps : List Str} {R : List D → Out → Prop} {p apos pos : Pos} {o e : Expr} {es : List Expr} {te : TE} {t : TA} {W : WX} {dvs : List V}
theorem k_make (c : MCallee P w K mg base x C k ps dvs R) (hr : Room j X.A) (hk : k + 1 ≤ j) (tk : Takes X W) (hg : Gl X x) (ha : PA X (e :: es) t) (hdb : (x == ("__debug__" : Str)) = false := by decide)
    (he : starEach (e :: es) X.env = (false, eval e X.env) :: starEach es X.env := by rfl) (hpl : (backTo pos (starEach es X.env)).any (·.1) = false := by rfl)
    (hX : X.prog = P ∧ X.w = w ∧ X.K = K ∧ X.mg = mg ∧ X.base = base := by exact ⟨rfl, rfl, rfl, rfl, rfl⟩) :
    PE X (.Call (.Name x p) (e :: es) [] pos) (tMakeS C (spM K C R) dvs (WE W) t) := by
  obtain ⟨rfl, rfl, rfl, rfl, rfl⟩ := hX
  obtain ⟨f, fd, ds, M, F, b, hv⟩ := c.ex
  exact pe_makeS M F (hr.mono hk) hg c.mg b hv (passAt tk) ha hdb he hpl
theorem k_meth {pl : Sem Bool} (c : Method P w K mg base C m k ps R) (hr : Room j X.A) (hk : k ≤ j) (tk : Takes X W) (ho : PE X o te) (ha : PA X (e :: es) t)
    (hst : starEach (e :: es) X.env = (false, eval e X.env) :: starEach es X.env := by rfl) (hpl : (backTo pos (starEach es X.env)).any (·.1) = false := by rfl)
    (ht : eval (.Call (.Attribute o m apos) (e :: es) [] pos) X.env = (do
      let ov ← eval o X.env
      standAt apos.atName
      let (f, first) ← holding [ov] (getMethod ov m pl)
      callWith pos f first (backTo pos (starEach (e :: es) X.env)) (backToKw pos (keywordEach [] X.env))) := by rfl)
    (hX : X.prog = P ∧ X.w = w ∧ X.K = K ∧ X.mg = mg ∧ X.base = base := by exact ⟨rfl, rfl, rfl, rfl, rfl⟩) :
    PE X (.Call (.Attribute o m apos) (e :: es) [] pos) (tMethS C m (spX K R) (WE W) te t) := by
  obtain ⟨rfl, rfl, rfl, rfl, rfl⟩ := hX
  obtain ⟨f, fd, M, F, b⟩ := c.ex
  exact pe_methS ho c.cl M F (hr.mono hk) b (passAt tk) ha hst hpl ht
theorem k_meth0 {pl : Sem Bool} (c : Method P w K mg base C m k ps R) (hr : Room j X.A) (hk : k ≤ j) (tk : Takes X W) (ho : PE X o te)
    (ht : eval (.Call (.Attribute o m apos) [] [] pos) X.env = (do
      let ov ← eval o X.env
      standAt apos.atName
      let (f, first) ← holding [ov] (getMethod ov m pl)
      callWith pos f first (backTo pos (starEach [] X.env)) (backToKw pos (keywordEach [] X.env))) := by rfl)
    (hX : X.prog = P ∧ X.w = w ∧ X.K = K ∧ X.mg = mg ∧ X.base = base := by exact ⟨rfl, rfl, rfl, rfl, rfl⟩) :
    PE X (.Call (.Attribute o m apos) [] [] pos) (tMethS C m (spX K R) (WE W) te tNil) := by
  obtain ⟨rfl, rfl, rfl, rfl, rfl⟩ := hX
  obtain ⟨f, fd, M, F, b⟩ := c.ex
  exact pe_methS0 ho c.cl M F (hr.mono hk) b (passAt tk) ht
end
end G

namespace G
open PySem PySem.Spec L2
theorem slots_nomu {N : List Str} {ds : List D} : ∀ (i : Nat) (d : D), (slots N ds)[i]? ≠ some (some (SV.mu d)) := fun i d h => by
  unfold slots at h
  rw [List.getElem?_append] at h
  split at h
  · rw [List.getElem?_map] at h
    cases q : ds[i]? with
    | none => rw [q] at h; cases h
    | some x => rw [q] at h; cases h
  · obtain ⟨a, b⟩ := List.getElem?_eq_some_iff.mp h
    rw [List.getElem_replicate] at b
    cases b
/-- the slots at the entry of an __init__: self without fields -/
def slotsM (N : List Str) (C : Addr) (ds : List D) : Sl := (slots N (.non :: ds)).set 0 (some (.mu (.obj C [] [])))
theorem slots0 {N : List Str} {a b : D} {ds : List D} {s : Option SV} : (slots N (a :: ds)).set 0 s = (slots N (b :: ds)).set 0 s := by
  unfold slots
  simp only [List.map_cons, List.cons_append, List.set_cons_zero, List.length_cons]
/-- THE RULE for an own __init__ -/
theorem ok_initM {P : Program} {w : World} {K : PySem.W.Frag} {mg : Str → Option Value} {base : Heap} {x qual : Str} {params : Arguments} {body : List Stmt} {scope : Scope} {dvs : List V} {f C : Addr} {fd : FuncData} {N ps : List Str} {k : Nat} {R : List D → Out → Prop}
    (F : FunD K x qual params body scope dvs [] f fd) (S : FnScope N ps scope) (hn : ∀ ds o, R ds o → ds.length + 1 = ps.length)
    (hb : ∀ (cdv : Value) (A : Around) (outer : List Env) (s : Shared) (H : Hp) (E : XK), Room k (A.deeper (PyProof.Rows.envOfC qual scope s.heap.objs.size f cdv)) →
      ∃ t, PSs (cxOf (L2.CX P w) P w K mg base N qual scope f cdv A outer s H E) body t ∧ ∀ (I H' : Hp) (x : Addr) ds o, R ds o → B ⟨K, I, H', [(0, x)], fun cls d _ H => E cls d H⟩ (slotsM N C ds) t
        { nx := fun Γ => ∃ ns es, Γ[0]? = some (some (.mu (.obj C ns es))) ∧ R ds (.ok (.obj C ns es)), rt := fun _ _ => False, ex := fun _ C' ns es => R ds (.ex C' ns es) }) :
    FnOk P w K mg base (L2.CX P w) (k + 1) f fd ps (spM K C R) := by
  refine F.ok S (fun vs H Q E h => ?_) (fun cdv A outer s H vs Q E hr h => ?_)
  · obtain ⟨I, x, rest, ds, dx, rfl, _, _, _, r, ⟨o, hR⟩, _⟩ := h
    rw [List.length_cons, r.length]; exact hn ds o hR
  · obtain ⟨I, x, rest, ds, dx, rfl, e, nx, hx, r, ⟨o, hR⟩, q, qx⟩ := h
    obtain ⟨t, ht, hB⟩ := hb cdv A outer s H E hr
    have l0 : Lo K I (start N (.ref x :: rest)) H (fun _ => x) (slots N (.ref x :: ds)) := by
      have l := lo_start (N := N) (H := H) (.cons (.ref x) r)
      refine ⟨fun i s hs => ?_, fun i j d d' h1 _ _ => absurd h1 (slots_nomu i d), l.len⟩
      cases s with
      | im d => exact l.at_ i _ hs
      | mu d => exact absurd hs (slots_nomu i d)
    have eΓ : slotsM N C ds = (slots N (.ref x :: ds)).set 0 (some (.mu (.obj C [] []))) := slots0
    have only : ∀ i d, (slotsM N C ds)[i]? = some (some (SV.mu d)) → i = 0 := fun i d h => by
      rw [eΓ] at h
      rcases set_get h with ⟨z, _⟩ | ⟨_, z⟩
      · exact z
      · exact absurd z (slots_nomu i d)
    have l1 : Lo K I (start N (.ref x :: rest)) H (fun _ => x) (slotsM N C ds) := by
      refine ⟨fun i s hs => ?_, fun i j d d' h1 h2 ne => absurd ((only i d h1).trans (only j d' h2).symm) ne, by rw [l0.len, eΓ, List.length_set]⟩
      rw [eΓ] at hs
      rcases set_get hs with ⟨rfl, z⟩ | ⟨_, z⟩
      · cases z
        exact ⟨rfl, nx, _, hx, MRp.ins (ns := []) (vs := []) rfl .nil⟩
      · exact l0.at_ i s z
    refine ⟨t, ht, hB I H x ds o hR I I _ H (fun _ => x) _ (Ex.refl _) ⟨Gr.refl e, l1, fun i d h => .inr (by rw [only i d h]; exact List.mem_cons_self), fun p hp => by
      rw [List.mem_singleton] at hp; rw [hp]⟩ ⟨fun I1 σ1 H1 as Γ1 h1 _ a1 => ?_, fun _ _ _ _ _ h => h.elim, fun _ _ _ _ _ h => h.elim, fun _ _ _ _ _ h => h.elim, fun I1 σ1 H1 as Γ1 C' ns es d hx' _ a1 hd => qx C' ns es hx' I1 H1 d a1.gr hd⟩⟩
    obtain ⟨ns, es, hΓ, hRo⟩ := h1
    obtain ⟨_, hn1, o1, ho1, hm⟩ := a1.lo.at_ 0 _ hΓ
    have hx0 : as 0 = x := a1.fix (0, x) List.mem_cons_self
    rw [hx0] at hn1 ho1
    cases hm with
    | ins hl hr1 => exact q ns es hRo I1 H1 _ _ a1.gr hn1 ho1 hl hr1
theorem Fun.toD {K : PySem.W.Frag} {x qual : Str} {st : Stmt} {f : Addr} {fd : FuncData} (F : Fun K x qual st f fd) : FunD K x qual (defArgs st) (defBody st) (defScope st) [] [] f fd := by
  obtain ⟨oc, od, kV, doc, pm, an, cdv, ct, osl, e, l, c⟩ := F.ex
  exact ⟨⟨oc, od, .none, kV, doc, pm, an, cdv, ct, osl, e, l, c, .inl ⟨rfl, rfl⟩, .inl rfl⟩, F.kp⟩
end G

namespace S
open PySem PySem.Spec L2
open G (Ex Gr ex_rd ex_l ex_t ExnAt exx exx_ok)
/-! ### names of classes and fields -/
def clsA (K : PySem.W.Frag) (n : String) : Option Addr := match PySem.W.nsIn K mainGlobals (Str.ofString n) with
  | some (some (.ref a)) => some a
  | _ => none
theorem ofS_inj {a b : String} (h : Str.ofString a = Str.ofString b) : a = b := by
  rw [Str.ofString_eq_toList, Str.ofString_eq_toList] at h
  have h1 : (a.toList.map Char.toNat).toArray = (b.toList.map Char.toNat).toArray := by injection h
  have h2 : a.toList.map Char.toNat = b.toList.map Char.toNat := by simpa using h1
  have h3 : a.toList = b.toList := List.map_inj_right (fun x y e => Char.toNat_inj.mp e) |>.mp h2
  exact String.toList_inj.mp h3
@[simp] theorem ofS_iff {a b : String} : Str.ofString a = Str.ofString b ↔ a = b := ⟨ofS_inj, fun h => h ▸ rfl⟩
/-- names as the heap has them -/
abbrev sN (ns : List String) : List Str := ns.map Str.ofString
theorem sN_lookup {α : Type} {f : String} : ∀ {ns : List String} {vs : List α}, ((sN ns).zip vs).lookup (Str.ofString f) = (ns.zip vs).lookup f
  | [], _ => by simp [sN]
  | _ :: _, [] => by simp [sN]
  | n :: ns, v :: vs => by
    have ih := sN_lookup (f := f) (ns := ns) (vs := vs)
    show ((Str.ofString n, v) :: (sN ns).zip vs).lookup (Str.ofString f) = ((n, v) :: ns.zip vs).lookup f
    rw [G.lk_put]
    by_cases h : f = n
    · subst h; simp
    · rw [if_neg (fun z => h (ofS_inj z)), ih]
      have : (f == n) = false := by simpa using h
      simp [List.lookup, this]
theorem sN_mem {f : String} {ns : List String} : Str.ofString f ∈ sN ns ↔ f ∈ ns := by
  constructor
  · intro h
    obtain ⟨n, hn, e⟩ := List.mem_map.mp h
    exact ofS_inj e ▸ hn
  · intro h
    exact List.mem_map.mpr ⟨f, h, rfl⟩
/-! ### data -/
inductive D where
  | non | bl (b : Bool) | int (i : Int) | str (s : Str) | lst (ds : List D) | tup (ds : List D)
  | dic (ks : List Key) (ds : List D) | dit (ks : List (List Key)) (ds : List D)
  | obj (C : String) (ns : List String) (ds : List D) | exn (C : String) (ns : List String) (ds : List D)
  | fl (ds : List D) | kt (ds : List D) | ty (n : String) | cl (n : String)
  deriving Inhabited
def ExdAt (I : Hp) (dx : Addr) (fs : List (Str × V)) : Prop := I dx = some (exd dx fs) ∨ I dx = some (.xd fs)
mutual
inductive Rp (K : PySem.W.Frag) (I : Hp) : V → D → Prop
  | non : Rp K I .non .non
  | bl (b : Bool) : Rp K I (.bl b) (.bl b)
  | int (i : Int) : Rp K I (.int i) (.int i)
  | str (x : Str) : Rp K I (.str x) (.str x)
  | lst {a : Addr} {xs : List V} {ds : List D} : I a = some (.lst xs) → Rps K I xs ds → Rp K I (.ref a) (.lst ds)
  | fl {a : Addr} {xs : List V} {ds : List D} : SqL K I a xs → Rps K I xs ds → Rp K I (.ref a) (.fl ds)
  | ty (n : String) : Rp K I (.ty n) (.ty n)
  | cl {n : String} {C : Addr} : clsA K n = some C → Rp K I (.ref C) (.cl n)
  | tup {a : Addr} {xs : List V} {ds : List D} : I a = some (.tup xs) → Rps K I xs ds → Rp K I (.ref a) (.tup ds)
  | kt {a : Addr} {xs : List V} {ds : List D} : SqT K I a xs → Rps K I xs ds → Rp K I (.ref a) (.kt ds)
  | dic {a : Addr} {ks : List Key} {xs : List V} {ds : List D} : I a = some (.dK (ks.zip xs)) → ks.length = xs.length → Rps K I xs ds → Rp K I (.ref a) (.dic ks ds)
  | dit {a : Addr} {ks : List (List Key)} {xs : List V} {ds : List D} : I a = some (.dT (ks.zip xs)) → ks.length = xs.length → Rps K I xs ds → Rp K I (.ref a) (.dit ks ds)
  | obj {a C dx : Addr} {n : String} {ns : List String} {xs : List V} {ds : List D} : clsA K n = some C → I a = some (.ins C dx ((sN ns).zip xs)) → ns.length = xs.length → Rps K I xs ds → Rp K I (.ref a) (.obj n ns ds)
  | exn {a C dx : Addr} {n : String} {ns : List String} {xs : List V} {ds : List D} : clsA K n = some C → ExnAt I a C dx → G.ExdAt I dx ((sN ns).zip xs) → ns.length = xs.length → Rps K I xs ds → Rp K I (.ref a) (.exn n ns ds)
inductive Rps (K : PySem.W.Frag) (I : Hp) : List V → List D → Prop
  | nil : Rps K I [] []
  | cons {v : V} {vs : List V} {d : D} {ds : List D} : Rp K I v d → Rps K I vs ds → Rps K I (v :: vs) (d :: ds)
end
section
variable {K : PySem.W.Frag} {I I' : Hp}
mutual
theorem Rp.mono (e : Ex I I') : ∀ {v : V} {d : D}, Rp K I v d → Rp K I' v d
  | _, _, .non => .non
  | _, _, .bl b => .bl b
  | _, _, .int i => .int i
  | _, _, .str x => .str x
  | _, _, .lst h r => .lst (e _ _ h) (Rps.mono e r)
  | _, _, .fl h r => .fl (ex_l e h) (Rps.mono e r)
  | _, _, .ty n => .ty n
  | _, _, .cl h => .cl h
  | _, _, .tup h r => .tup (e _ _ h) (Rps.mono e r)
  | _, _, .kt h r => .kt (ex_t e h) (Rps.mono e r)
  | _, _, .dic h l r => .dic (e _ _ h) l (Rps.mono e r)
  | _, _, .dit h l r => .dit (e _ _ h) l (Rps.mono e r)
  | _, _, .obj c h l r => .obj c (e _ _ h) l (Rps.mono e r)
  | _, _, .exn c h g l r => .exn c (h.mono e) (g.mono e) l (Rps.mono e r)
theorem Rps.mono (e : Ex I I') : ∀ {vs : List V} {ds : List D}, Rps K I vs ds → Rps K I' vs ds
  | _, _, .nil => .nil
  | _, _, .cons h r => .cons (Rp.mono e h) (Rps.mono e r)
end
theorem Rps.length : ∀ {vs : List V} {ds : List D}, Rps K I vs ds → vs.length = ds.length
  | _, _, .nil => rfl
  | _, _, .cons _ r => congrArg (· + 1) (Rps.length r)
theorem Rps.append : ∀ {vs ws : List V} {ds es : List D}, Rps K I vs ds → Rps K I ws es → Rps K I (vs ++ ws) (ds ++ es)
  | _, _, _, _, .nil, s => s
  | _, _, _, _, .cons h r, s => .cons h (Rps.append r s)
theorem Rps.get : ∀ {vs : List V} {ds : List D} {i : Nat} {d : D}, Rps K I vs ds → ds[i]? = some d → ∃ v, vs[i]? = some v ∧ Rp K I v d
  | _, _, _, _, .nil, e => by simp at e
  | _, _, 0, _, .cons h _, e => by simp at e; subst e; exact ⟨_, rfl, h⟩
  | _, _, i + 1, _, .cons _ r, e => by
    obtain ⟨v, h1, h2⟩ := Rps.get (i := i) r (by simpa using e)
    exact ⟨v, by simpa using h1, h2⟩
theorem Rps.getV : ∀ {vs : List V} {ds : List D} {i : Nat} {v : V}, Rps K I vs ds → vs[i]? = some v → ∃ d, ds[i]? = some d ∧ Rp K I v d
  | _, _, _, _, .nil, e => by simp at e
  | _, _, 0, _, .cons h _, e => by simp at e; subst e; exact ⟨_, rfl, h⟩
  | _, _, i + 1, _, .cons _ r, e => by
    obtain ⟨v, h1, h2⟩ := Rps.getV (i := i) r (by simpa using e)
    exact ⟨v, by simpa using h1, h2⟩
theorem Rps.take : ∀ {vs : List V} {ds : List D} (n : Nat), Rps K I vs ds → Rps K I (vs.take n) (ds.take n)
  | _, _, 0, _ => .nil
  | _, _, _ + 1, .nil => .nil
  | _, _, n + 1, .cons h r => .cons h (Rps.take n r)
theorem Rps.drop : ∀ {vs : List V} {ds : List D} (n : Nat), Rps K I vs ds → Rps K I (vs.drop n) (ds.drop n)
  | _, _, 0, r => r
  | _, _, _ + 1, .nil => .nil
  | _, _, n + 1, .cons _ r => Rps.drop n r
theorem Rps.set {v : V} {d : D} (h : Rp K I v d) : ∀ {vs : List V} {ds : List D} (n : Nat), Rps K I vs ds → Rps K I (vs.set n v) (ds.set n d)
  | _, _, _, .nil => .nil
  | _, _, 0, .cons _ r => .cons h r
  | _, _, n + 1, .cons q r => .cons q (Rps.set h n r)
theorem Rps.eraseIdx : ∀ {vs : List V} {ds : List D} (n : Nat), Rps K I vs ds → Rps K I (vs.eraseIdx n) (ds.eraseIdx n)
  | _, _, _, .nil => .nil
  | _, _, 0, .cons _ r => r
  | _, _, n + 1, .cons q r => .cons q (Rps.eraseIdx n r)
theorem Rps.reverse : ∀ {vs : List V} {ds : List D}, Rps K I vs ds → Rps K I vs.reverse ds.reverse
  | _, _, .nil => .nil
  | _, _, .cons q r => by rw [List.reverse_cons, List.reverse_cons]; exact (Rps.reverse r).append (.cons q .nil)
theorem Rps.one {v : V} {d : D} (h : Rp K I v d) : Rps K I [v] [d] := .cons h .nil
theorem Rps.dropLast {vs : List V} {ds : List D} (r : Rps K I vs ds) : Rps K I vs.dropLast ds.dropLast := by
  rw [List.dropLast_eq_take, List.dropLast_eq_take, r.length]; exact r.take _
inductive LD : D → List D → Prop
  | lst {ds : List D} : LD (.lst ds) ds
  | fl {ds : List D} : LD (.fl ds) ds
inductive LT : D → List D → Prop
  | tup {ds : List D} : LT (.tup ds) ds
  | kt {ds : List D} : LT (.kt ds) ds
theorem rps_ints : ∀ {vs : List V} {ns : List Int}, Rps K I vs (ns.map D.int) → vs = ns.map V.int
  | _, [], .nil => rfl
  | _, n :: ns, .cons (.int _) r => congrArg (V.int n :: ·) (rps_ints r)
theorem rps_of_ints : ∀ {ns : List Int}, Rps K I (ns.map V.int) (ns.map D.int)
  | [] => .nil
  | n :: ns => .cons (.int n) rps_of_ints
theorem rps_strs : ∀ {vs : List V} {ns : List Str}, Rps K I vs (ns.map D.str) → vs = ns.map V.str
  | _, [], .nil => rfl
  | _, n :: ns, .cons (.str _) r => congrArg (V.str n :: ·) (rps_strs r)
theorem rps_of_strs : ∀ {ns : List Str}, Rps K I (ns.map V.str) (ns.map D.str)
  | [] => .nil
  | n :: ns => .cons (.str n) rps_of_strs
theorem rps_bls : ∀ {vs : List V} {ns : List Bool}, Rps K I vs (ns.map D.bl) → vs = ns.map V.bl
  | _, [], .nil => rfl
  | _, n :: ns, .cons (.bl _) r => congrArg (V.bl n :: ·) (rps_bls r)
end
/-- an object that may change, all in it is data -/
inductive MRp (K : PySem.W.Frag) (I : Hp) : HO → D → Prop
  | lst {vs : List V} {ds : List D} (h : Rps K I vs ds) : MRp K I (.lst vs) (.lst ds)
  | dic {ks : List Key} {vs : List V} {ds : List D} (l : ks.length = vs.length) (h : Rps K I vs ds) : MRp K I (.dK (ks.zip vs)) (.dic ks ds)
  | dit {ks : List (List Key)} {vs : List V} {ds : List D} (l : ks.length = vs.length) (h : Rps K I vs ds) : MRp K I (.dT (ks.zip vs)) (.dit ks ds)
  | ins {C dx : Addr} {n : String} {ns : List String} {vs : List V} {ds : List D} (c : clsA K n = some C) (l : ns.length = vs.length) (h : Rps K I vs ds) : MRp K I (.ins C dx ((sN ns).zip vs)) (.obj n ns ds)
theorem MRp.mono {K : PySem.W.Frag} {I I' : Hp} (e : Ex I I') {o : HO} {d : D} (h : MRp K I o d) : MRp K I' o d := by
  cases h with
  | lst h => exact .lst (h.mono e)
  | dic l h => exact .dic l (h.mono e)
  | dit l h => exact .dit l (h.mono e)
  | ins c l h => exact .ins c l (h.mono e)
theorem MRp.rp {K : PySem.W.Frag} {I : Hp} {o : HO} {d : D} {a : Addr} (r : MRp K I o d) (h : I a = some o) : Rp K I (.ref a) d := by
  cases r with
  | lst r => exact .lst h r
  | dic l r => exact .dic h l r
  | dit l r => exact .dit h l r
  | ins c l r => exact .obj c h l r
/-- a value that is read: it stands for d now -/
inductive RpL (K : PySem.W.Frag) (I H : Hp) : V → D → Prop
  | p {v : V} {d : D} : Rp K I v d → RpL K I H v d
  | m {a : Addr} {o : HO} {d : D} : H a = some o → MRp K I o d → RpL K I H (.ref a) d
inductive RpLs (K : PySem.W.Frag) (I H : Hp) : List V → List D → Prop
  | nil : RpLs K I H [] []
  | cons {v : V} {vs : List V} {d : D} {ds : List D} : RpL K I H v d → RpLs K I H vs ds → RpLs K I H (v :: vs) (d :: ds)
section
variable {K : PySem.W.Frag} {I H : Hp} {v : V}
theorem RpL.int {i : Int} (r : RpL K I H v (.int i)) : v = .int i := by
  cases r with
  | p r => cases r; rfl
  | m _ r => cases r
theorem RpL.str {i : Str} (r : RpL K I H v (.str i)) : v = .str i := by
  cases r with
  | p r => cases r; rfl
  | m _ r => cases r
theorem RpL.bl {i : Bool} (r : RpL K I H v (.bl i)) : v = .bl i := by
  cases r with
  | p r => cases r; rfl
  | m _ r => cases r
theorem RpL.non (r : RpL K I H v .non) : v = .non := by
  cases r with
  | p r => cases r; rfl
  | m _ r => cases r
theorem RpL.ty {n : String} (r : RpL K I H v (.ty n)) : v = .ty n := by
  cases r with
  | p r => cases r; rfl
  | m _ r => cases r
theorem RpL.cl {n : String} (r : RpL K I H v (.cl n)) : ∃ C, v = .ref C ∧ clsA K n = some C := by
  cases r with
  | p r => cases r with | cl h => exact ⟨_, rfl, h⟩
  | m _ r => cases r
theorem RpL.lst {ds : List D} (e : Ex I H) (r : RpL K I H v (.lst ds)) : ∃ a vs, v = .ref a ∧ H a = some (.lst vs) ∧ Rps K I vs ds := by
  cases r with
  | p r => cases r with | lst h r => exact ⟨_, _, rfl, e _ _ h, r⟩
  | m h r => cases r with | lst r => exact ⟨_, _, rfl, h, r⟩
theorem RpL.l {d : D} {ds : List D} (e : Ex I H) (r : RpL K I H v d) (h : LD d ds) : ∃ a vs, v = .ref a ∧ SqL K H a vs ∧ Rps K I vs ds := by
  cases h with
  | lst => obtain ⟨a, vs, h1, h2, h3⟩ := r.lst e; exact ⟨a, vs, h1, .inl (.inl h2), h3⟩
  | fl =>
    cases r with
    | p r => cases r with | fl h r => exact ⟨_, _, rfl, ex_l e h, r⟩
    | m h r => cases r
theorem RpL.tup {ds : List D} (e : Ex I H) (r : RpL K I H v (.tup ds)) : ∃ a vs, v = .ref a ∧ I a = some (.tup vs) ∧ H a = some (.tup vs) ∧ Rps K I vs ds := by
  cases r with
  | p r => cases r with | tup h r => exact ⟨_, _, rfl, h, e _ _ h, r⟩
  | m h r => cases r
theorem RpL.t {d : D} {ds : List D} (e : Ex I H) (r : RpL K I H v d) (h : LT d ds) : ∃ a vs, v = .ref a ∧ SqT K I a vs ∧ SqT K H a vs ∧ Rps K I vs ds := by
  cases h with
  | tup => obtain ⟨a, vs, h1, h2, h3, h4⟩ := r.tup e; exact ⟨a, vs, h1, .inl (.inl h2), .inl (.inl h3), h4⟩
  | kt =>
    cases r with
    | p r => cases r with | kt h r => exact ⟨_, _, rfl, h, ex_t e h, r⟩
    | m h r => cases r
theorem RpL.dic {ks : List Key} {ds : List D} (e : Ex I H) (r : RpL K I H v (.dic ks ds)) : ∃ a vs, v = .ref a ∧ H a = some (.dK (ks.zip vs)) ∧ ks.length = vs.length ∧ Rps K I vs ds := by
  cases r with
  | p r => cases r with | dic h l r => exact ⟨_, _, rfl, e _ _ h, l, r⟩
  | m h r => cases r with | dic l r => exact ⟨_, _, rfl, h, l, r⟩
theorem RpL.dit {ks : List (List Key)} {ds : List D} (e : Ex I H) (r : RpL K I H v (.dit ks ds)) : ∃ a vs, v = .ref a ∧ H a = some (.dT (ks.zip vs)) ∧ ks.length = vs.length ∧ Rps K I vs ds := by
  cases r with
  | p r => cases r with | dit h l r => exact ⟨_, _, rfl, e _ _ h, l, r⟩
  | m h r => cases r with | dit l r => exact ⟨_, _, rfl, h, l, r⟩
theorem RpL.obj {n : String} {ns : List String} {ds : List D} (e : Ex I H) (r : RpL K I H v (.obj n ns ds)) : ∃ a C dx vs, v = .ref a ∧ clsA K n = some C ∧ H a = some (.ins C dx ((sN ns).zip vs)) ∧ ns.length = vs.length ∧ Rps K I vs ds := by
  cases r with
  | p r => cases r with | obj c h l r => exact ⟨_, _, _, _, rfl, c, e _ _ h, l, r⟩
  | m h r => cases r with | ins c l r => exact ⟨_, _, _, _, rfl, c, h, l, r⟩
theorem RpL.exn {n : String} {ns : List String} {ds : List D} (e : Ex I H) (r : RpL K I H v (.exn n ns ds)) : ∃ a C dx vs, v = .ref a ∧ clsA K n = some C ∧ ExnAt H a C dx ∧ G.ExdAt H dx ((sN ns).zip vs) ∧ ns.length = vs.length ∧ Rps K I vs ds := by
  cases r with
  | p r => cases r with | exn c h g l r => exact ⟨_, _, _, _, rfl, c, h.mono e, g.mono e, l, r⟩
  | m h r => cases r
end
theorem lk_zip {K : PySem.W.Frag} {I : Hp} {f : String} : ∀ {ns : List String} {vs : List V} {ds : List D} {d : D}, Rps K I vs ds → (ns.zip ds).lookup f = some d → ∃ v, (ns.zip vs).lookup f = some v ∧ Rp K I v d
  | [], _, _, _, _, h => by simp at h
  | _ :: _, _, _, _, .nil, h => by simp at h
  | n :: ns, _, _, d, .cons (v := v) (d := d') r rs, h => by
    rw [List.zip_cons_cons, List.lookup] at h
    rw [List.zip_cons_cons, List.lookup]
    cases e : f == n with
    | true => rw [e] at h; cases h; exact ⟨v, rfl, r⟩
    | false => rw [e] at h; exact lk_zip rs h
/-! ### the shadow's values, cells, states -/
inductive U where
  | d (x : D) | lc (j : Nat)
  deriving Inhabited
inductive Cell where
  | p (d : D) | n (us : List U) | gone
  deriving Inhabited
structure Sg where
  sl : List (Option U)
  mm : List Cell
  deriving Inhabited
structure Xn where
  C : String
  ns : List String
  ds : List D
  deriving Inhabited
inductive Rs (α : Type) where
  | st | ok (a : α) (g : Sg) | ex (x : Xn) (g : Sg)
  deriving Inhabited
def Rs.bind {α β : Type} (r : Rs α) (f : α → Sg → Rs β) : Rs β := match r with
  | .st => .st
  | .ok a g => f a g
  | .ex x g => .ex x g
@[simp] theorem Rs.bind_st {α β : Type} (f : α → Sg → Rs β) : (Rs.st : Rs α).bind f = .st := rfl
@[simp] theorem Rs.bind_ok {α β : Type} (a : α) (g : Sg) (f : α → Sg → Rs β) : (Rs.ok a g).bind f = f a g := rfl
@[simp] theorem Rs.bind_ex {α β : Type} (x : Xn) (g : Sg) (f : α → Sg → Rs β) : (Rs.ex x g : Rs α).bind f = .ex x g := rfl
inductive RU (K : PySem.W.Frag) (I : Hp) (as : Nat → Addr) (n : Nat) : V → U → Prop
  | d {v : V} {x : D} : Rp K I v x → RU K I as n v (.d x)
  | lc {j : Nat} : j < n → RU K I as n (.ref (as j)) (.lc j)
inductive RUs (K : PySem.W.Frag) (I : Hp) (as : Nat → Addr) (n : Nat) : List V → List U → Prop
  | nil : RUs K I as n [] []
  | cons {v : V} {vs : List V} {u : U} {us : List U} : RU K I as n v u → RUs K I as n vs us → RUs K I as n (v :: vs) (u :: us)
/-- a world: the part that never changes, the heap, where the cells lie -/
structure Wd where
  I : Hp
  H : Hp
  as : Nat → Addr
def live (mm : List Cell) (j : Nat) : Prop := ∃ c, mm[j]? = some c ∧ c ≠ .gone
theorem live_lt {mm : List Cell} {j : Nat} (h : live mm j) : j < mm.length := by
  obtain ⟨c, h, _⟩ := h
  exact (List.getElem?_eq_some_iff.mp h).1
/-- from m to m': what is no cell stays -/
structure Nx (m : Wd) (mm : List Cell) (m' : Wd) (mm' : List Cell) : Prop where
  ex : Ex m.I m'.I
  kp : ∀ a o, m.H a = some o → (∀ j, live mm j → m.as j ≠ a) → m'.H a = some o
  fr : ∀ a, m.H a ≠ none → (∀ j, live mm j → m.as j ≠ a) → m'.I a = m.I a
  th : ∀ a, m.H a ≠ none → m'.H a ≠ none
  as : ∀ j, j < mm.length → m'.as j = m.as j
  le : mm.length ≤ mm'.length
  nw : ∀ j, live mm' j → live mm j ∨ m.H (m'.as j) = none
theorem Nx.refl {m : Wd} {mm : List Cell} : Nx m mm m mm := ⟨Ex.refl _, fun _ _ h _ => h, fun _ _ _ => rfl, fun _ h => h, fun _ _ => rfl, Nat.le_refl _, fun _ h => .inl h⟩
theorem Nx.apart {m m1 : Wd} {mm mm1 : List Cell} (x : Nx m mm m1 mm1) {a : Addr} (h : m.H a ≠ none) (n : ∀ j, live mm j → m.as j ≠ a) : ∀ j, live mm1 j → m1.as j ≠ a := fun j hj z => by
  rcases x.nw j hj with h1 | h1
  · rw [x.as j (live_lt h1)] at z
    exact n j h1 z
  · rw [z] at h1; exact h h1
theorem Nx.trans {m m1 m2 : Wd} {mm mm1 mm2 : List Cell} (a : Nx m mm m1 mm1) (b : Nx m1 mm1 m2 mm2) : Nx m mm m2 mm2 where
  ex := a.ex.trans b.ex
  kp := fun x o h n => b.kp x o (a.kp x o h n) (a.apart (by rw [h]; exact nofun) n)
  fr := fun x h n => (b.fr x (a.th x h) (a.apart h n)).trans (a.fr x h n)
  th := fun x h => b.th x (a.th x h)
  as := fun j h => (b.as j (Nat.lt_of_lt_of_le h a.le)).trans (a.as j h)
  le := Nat.le_trans a.le b.le
  nw := fun j h => by
    rcases b.nw j h with h1 | h1
    · rcases a.nw j h1 with h2 | h2
      · exact .inl h2
      · right; rw [b.as j (live_lt h1)]; exact h2
    · right
      cases z : m.H (m2.as j) with
      | none => rfl
      | some o => exact absurd h1 (a.th _ (by rw [z]; exact nofun))
theorem Nx.g {I H I' H' : Hp} {as : Nat → Addr} {mm : List Cell} (g : Gr [] I H I' H') : Nx ⟨I, H, as⟩ mm ⟨I', H', as⟩ mm :=
  ⟨g.i, fun a o h _ => g.ex _ _ h, fun a h _ => g.fr a h, g.th, fun _ _ => rfl, Nat.le_refl _, fun _ h => .inl h⟩
section
variable {K : PySem.W.Frag} {I I' : Hp} {as as' : Nat → Addr} {n n' : Nat}
theorem RU.up (e : Ex I I') (ha : ∀ j, j < n → as' j = as j) (le : n ≤ n') {v : V} {u : U} (h : RU K I as n v u) : RU K I' as' n' v u := by
  cases h with
  | d r => exact .d (r.mono e)
  | lc h => rw [← ha _ h]; exact .lc (Nat.lt_of_lt_of_le h le)
theorem RUs.up (e : Ex I I') (ha : ∀ j, j < n → as' j = as j) (le : n ≤ n') : ∀ {vs : List V} {us : List U}, RUs K I as n vs us → RUs K I' as' n' vs us
  | _, _, .nil => .nil
  | _, _, .cons h r => .cons (h.up e ha le) (RUs.up e ha le r)
theorem RU.mono {m m' : Wd} {mm mm' : List Cell} (x : Nx m mm m' mm') {v : V} {u : U} (h : RU K m.I m.as mm.length v u) : RU K m'.I m'.as mm'.length v u := h.up x.ex x.as x.le
theorem RUs.mono {m m' : Wd} {mm mm' : List Cell} (x : Nx m mm m' mm') {vs : List V} {us : List U} (h : RUs K m.I m.as mm.length vs us) : RUs K m'.I m'.as mm'.length vs us := h.up x.ex x.as x.le
theorem RUs.length : ∀ {vs : List V} {us : List U}, RUs K I as n vs us → vs.length = us.length
  | _, _, .nil => rfl
  | _, _, .cons _ r => congrArg (· + 1) (RUs.length r)
theorem RUs.append : ∀ {vs ws : List V} {us ts : List U}, RUs K I as n vs us → RUs K I as n ws ts → RUs K I as n (vs ++ ws) (us ++ ts)
  | _, _, _, _, .nil, s => s
  | _, _, _, _, .cons h r, s => .cons h (RUs.append r s)
theorem RUs.get : ∀ {vs : List V} {us : List U} {i : Nat} {u : U}, RUs K I as n vs us → us[i]? = some u → ∃ v, vs[i]? = some v ∧ RU K I as n v u
  | _, _, _, _, .nil, e => by simp at e
  | _, _, 0, _, .cons h _, e => by simp at e; subst e; exact ⟨_, rfl, h⟩
  | _, _, i + 1, _, .cons _ r, e => by
    obtain ⟨v, h1, h2⟩ := RUs.get (i := i) r (by simpa using e)
    exact ⟨v, by simpa using h1, h2⟩
theorem RUs.set {v : V} {u : U} (h : RU K I as n v u) : ∀ {vs : List V} {us : List U} (k : Nat), RUs K I as n vs us → RUs K I as n (vs.set k v) (us.set k u)
  | _, _, _, .nil => .nil
  | _, _, 0, .cons _ r => .cons h r
  | _, _, k + 1, .cons q r => .cons q (RUs.set h k r)
theorem RUs.dropLast : ∀ {vs : List V} {us : List U}, RUs K I as n vs us → RUs K I as n vs.dropLast us.dropLast
  | _, _, .nil => .nil
  | _, _, .cons h .nil => .nil
  | _, _, .cons h (.cons h2 r) => .cons h (RUs.dropLast (.cons h2 r))
theorem RUs.of {vs : List V} {ds : List D} (r : Rps K I vs ds) : RUs K I as n vs (ds.map U.d) := by
  induction ds generalizing vs with
  | nil => cases r; exact .nil
  | cons d ds ih => cases r with | cons a b => exact .cons (.d a) (ih b)
end
/-- what cell j is in the heap -/
def CellOk (K : PySem.W.Frag) (I H : Hp) (as : Nat → Addr) (n : Nat) (a : Addr) : Cell → Prop
  | .p d => I a = none ∧ ∃ o, H a = some o ∧ MRp K I o d
  | .n us => I a = none ∧ ∃ vs, H a = some (.lst vs) ∧ RUs K I as n vs us
  | .gone => True
theorem CellOk.there {K : PySem.W.Frag} {I H : Hp} {as : Nat → Addr} {n : Nat} {a : Addr} {c : Cell} (h : CellOk K I H as n a c) (q : c ≠ .gone) : I a = none ∧ ∃ o, H a = some o := by
  cases c with
  | p d => exact ⟨h.1, h.2.imp fun o z => z.1⟩
  | n us => obtain ⟨h1, vs, h2, _⟩ := h; exact ⟨h1, _, h2⟩
  | gone => exact absurd rfl q
structure At (K : PySem.W.Frag) (σ : L2.St) (m : Wd) (Γ : Sg) : Prop where
  ih : Ex m.I m.H
  sl : ∀ (i : Nat) (u : U), Γ.sl[i]? = some (some u) → ∃ v : V, σ[i]? = some (some v) ∧ RU K m.I m.as Γ.mm.length v u
  mm : ∀ (j : Nat) (c : Cell), Γ.mm[j]? = some c → CellOk K m.I m.H m.as Γ.mm.length (m.as j) c
  ne : ∀ j k, live Γ.mm j → live Γ.mm k → j ≠ k → m.as j ≠ m.as k
  len : σ.length = Γ.sl.length
structure XdAt (K : PySem.W.Frag) (I H H0 : Hp) (dx : Addr) (ns : List String) (ds : List D) : Prop where
  at_ : ∃ vs : List V, H dx = some (.xd ((sN ns).zip vs)) ∧ ns.length = vs.length ∧ Rps K I vs ds
  ni : I dx = none
  n0 : H0 dx = none
theorem XdAt.back {K : PySem.W.Frag} {I H H0 H1 : Hp} {dx : Addr} {ns : List String} {ds : List D} (x : XdAt K I H H1 dx ns ds) (e : ∀ a, H0 a ≠ none → H1 a ≠ none) : XdAt K I H H0 dx ns ds :=
  ⟨x.at_, x.ni, by
    cases q : H0 dx with
    | none => rfl
    | some o => exact absurd x.n0 (e dx (by rw [q]; exact nofun))⟩
section
variable {K : PySem.W.Frag} {σ σ' : L2.St} {m m' : Wd} {I I' H H' : Hp} {as : Nat → Addr} {Γ : Sg}
theorem CellOk.mono {n : Nat} (g : Gr [] I H I' H') {a : Addr} {x : Cell} (h : CellOk K I H as n a x) : CellOk K I' H' as n a x := by
  cases x with
  | p d => obtain ⟨h1, o, h2, h3⟩ := h; exact ⟨g.none_i h1 (by rw [h2]; exact nofun), o, g.ex _ _ h2, h3.mono g.i⟩
  | n us => obtain ⟨h1, o, h2, h3⟩ := h; exact ⟨g.none_i h1 (by rw [h2]; exact nofun), o, g.ex _ _ h2, h3.up g.i (fun _ _ => rfl) (Nat.le_refl _)⟩
  | gone => trivial
theorem At.g (a : At K σ m Γ) (g : Gr [] m.I m.H I' H') : At K σ ⟨I', H', m.as⟩ Γ :=
  ⟨g.ih, fun i u h => by obtain ⟨v, h1, h2⟩ := a.sl i u h; exact ⟨v, h1, h2.up g.i (fun _ _ => rfl) (Nat.le_refl _)⟩, fun j x h => (a.mm j x h).mono g, a.ne, a.len⟩
/-- the slots changed -/
theorem At.sls (a : At K σ m Γ) {sl : List (Option U)} (h : ∀ (i : Nat) (u : U), sl[i]? = some (some u) → ∃ v : V, σ'[i]? = some (some v) ∧ RU K m.I m.as Γ.mm.length v u) (hl : σ'.length = sl.length) : At K σ' m ⟨sl, Γ.mm⟩ :=
  ⟨a.ih, h, a.mm, a.ne, hl⟩
theorem set_get {α : Type} {xs : List (Option α)} {i j : Nat} {a : Option α} {s : α} (h : (xs.set i a)[j]? = some (some s)) : (j = i ∧ a = some s ∧ i < xs.length) ∨ (j ≠ i ∧ xs[j]? = some (some s)) := by
  by_cases e : j = i
  · subst e
    left
    have hl := (List.getElem?_eq_some_iff.mp h).1
    rw [List.length_set] at hl
    rw [List.getElem?_set_self hl] at h
    exact ⟨rfl, by simpa using h, hl⟩
  · rw [List.getElem?_set_ne (Ne.symm e)] at h
    exact .inr ⟨e, h⟩
theorem At.set (a : At K σ m Γ) {i : Nat} {v : V} {u : U} (r : RU K m.I m.as Γ.mm.length v u) : At K (σ.set i (some v)) m ⟨Γ.sl.set i (some u), Γ.mm⟩ :=
  a.sls (fun j w h => by
    rcases set_get h with ⟨rfl, e, hl⟩ | ⟨ne, h⟩
    · cases e
      exact ⟨v, List.getElem?_set_self (by rw [a.len]; exact hl), r⟩
    · obtain ⟨v, h1, h2⟩ := a.sl j w h
      exact ⟨v, by rw [List.getElem?_set_ne (Ne.symm ne)]; exact h1, h2⟩) (by simp [a.len])
theorem At.unset (a : At K σ m Γ) {i : Nat} : At K (σ.set i none) m ⟨Γ.sl.set i none, Γ.mm⟩ :=
  a.sls (fun j w h => by
    rcases set_get h with ⟨rfl, e, hl⟩ | ⟨ne, h⟩
    · cases e
    · obtain ⟨v, h1, h2⟩ := a.sl j w h
      exact ⟨v, by rw [List.getElem?_set_ne (Ne.symm ne)]; exact h1, h2⟩) (by simp [a.len])
theorem At.forget (a : At K σ m Γ) {i : Nat} : At K σ m ⟨Γ.sl.set i none, Γ.mm⟩ :=
  a.sls (fun j w h => by
    rcases set_get h with ⟨rfl, e, hl⟩ | ⟨ne, h⟩
    · cases e
    · exact a.sl j w h) (by simp [a.len])
/-- a new cell -/
def updA (as : Nat → Addr) (i : Nat) (p : Addr) : Nat → Addr := fun j => if j = i then p else as j
theorem updA_same {as : Nat → Addr} {i : Nat} {p : Addr} : updA as i p i = p := if_pos rfl
theorem updA_ne {as : Nat → Addr} {i j : Nat} {p : Addr} (h : j ≠ i) : updA as i p j = as j := if_neg h
theorem push_at {mm : List Cell} {x y : Cell} {j : Nat} (h : (mm ++ [x])[j]? = some y) : (j < mm.length ∧ mm[j]? = some y) ∨ (j = mm.length ∧ y = x) := by
  rw [List.getElem?_append] at h
  split at h
  · rename_i hl; exact .inl ⟨hl, h⟩
  · rename_i hl
    right
    have : j - mm.length = 0 := by
      by_cases z : j - mm.length = 0
      · exact z
      · rw [List.getElem?_eq_none (by simp; omega)] at h; cases h
    rw [this] at h
    exact ⟨by omega, by simpa using h.symm⟩
theorem push_live {mm : List Cell} {x : Cell} {j : Nat} (h : live (mm ++ [x]) j) : (j < mm.length ∧ live mm j) ∨ j = mm.length := by
  obtain ⟨y, h, hy⟩ := h
  rcases push_at h with ⟨h1, h2⟩ | ⟨h1, _⟩
  · exact .inl ⟨h1, y, h2, hy⟩
  · exact .inr h1
/-- what lies at an address that no cell has becomes a cell -/
theorem At.push (a : At K σ m Γ) {p : Addr} {x : Cell} (hx : CellOk K m.I m.H m.as Γ.mm.length p x) (hq : x ≠ .gone) (hne : ∀ j, live Γ.mm j → m.as j ≠ p) : At K σ ⟨m.I, m.H, updA m.as Γ.mm.length p⟩ ⟨Γ.sl, Γ.mm ++ [x]⟩ := by
  have ha : ∀ j, j < Γ.mm.length → updA m.as Γ.mm.length p j = m.as j := fun j h => updA_ne (Nat.ne_of_lt h)
  have le : Γ.mm.length ≤ (Γ.mm ++ [x]).length := by rw [List.length_append]; exact Nat.le_add_right _ _
  have cl : ∀ {q : Addr} {y : Cell}, CellOk K m.I m.H m.as Γ.mm.length q y → CellOk K m.I m.H (updA m.as Γ.mm.length p) (Γ.mm ++ [x]).length q y := fun {q y} h => by
    cases y with
    | p d => exact h
    | n us => obtain ⟨h1, vs, h2, h3⟩ := h; exact ⟨h1, vs, h2, h3.up (Ex.refl _) ha le⟩
    | gone => trivial
  refine ⟨a.ih, fun i u h => ?_, fun j y h => ?_, fun j k hj hk ne => ?_, a.len⟩
  · obtain ⟨v, h1, h2⟩ := a.sl i u h
    exact ⟨v, h1, h2.up (Ex.refl _) ha le⟩
  · rcases push_at h with ⟨h1, h2⟩ | ⟨rfl, rfl⟩
    · show CellOk K m.I m.H _ _ (updA m.as Γ.mm.length p j) y
      rw [updA_ne (Nat.ne_of_lt h1)]; exact cl (a.mm j y h2)
    · show CellOk K m.I m.H _ _ (updA m.as Γ.mm.length p Γ.mm.length) y
      rw [updA_same]; exact cl hx
  · show updA m.as Γ.mm.length p j ≠ updA m.as Γ.mm.length p k
    rcases push_live hj with ⟨h1, h2⟩ | rfl
    · rw [updA_ne (Nat.ne_of_lt h1)]
      rcases push_live hk with ⟨h3, h4⟩ | rfl
      · rw [updA_ne (Nat.ne_of_lt h3)]; exact a.ne j k h2 h4 ne
      · rw [updA_same]; exact hne j h2
    · rw [updA_same]
      rcases push_live hk with ⟨h3, h4⟩ | rfl
      · rw [updA_ne (Nat.ne_of_lt h3)]; exact (hne k h4).symm
      · exact absurd rfl ne
theorem At.fresh (A : At K σ m Γ) {p : Addr} (hp : m.H p = none) : ∀ j, live Γ.mm j → m.as j ≠ p := fun j ⟨x, hx, hq⟩ z => by
  obtain ⟨_, o, ho⟩ := (A.mm j x hx).there hq
  rw [z, hp] at ho; cases ho
/-- a new object is laid and becomes a cell -/
theorem At.alloc (A : At K σ m Γ) {p : Addr} {o : HO} {x : Cell} (hp : m.H p = none) (hx : CellOk K m.I (upd m.H p o) m.as Γ.mm.length p x) (hq : x ≠ .gone) :
    At K σ ⟨m.I, upd m.H p o, updA m.as Γ.mm.length p⟩ ⟨Γ.sl, Γ.mm ++ [x]⟩ ∧ Nx m Γ.mm ⟨m.I, upd m.H p o, updA m.as Γ.mm.length p⟩ (Γ.mm ++ [x]) := by
  have g := Gr.junk (m := []) (o := o) A.ih hp
  refine ⟨(A.g g).push (x := x) hx hq (A.fresh hp), ⟨g.i, fun a o h _ => g.ex _ _ h, fun a h _ => g.fr a h, g.th, fun j h => updA_ne (Nat.ne_of_lt h), by rw [List.length_append]; exact Nat.le_add_right _ _, fun j h => ?_⟩⟩
  rcases push_live h with ⟨_, h1⟩ | rfl
  · exact .inl h1
  · right
    show m.H (updA m.as Γ.mm.length p Γ.mm.length) = none
    rw [updA_same]; exact hp
/-- cell j changes -/
theorem At.put (A : At K σ m Γ) {j : Nat} {o : HO} {x y : Cell} (h : Γ.mm[j]? = some x) (hx : x ≠ .gone) (hy : y ≠ .gone) (ho : CellOk K m.I (upd m.H (m.as j) o) m.as Γ.mm.length (m.as j) y) :
    At K σ ⟨m.I, upd m.H (m.as j) o, m.as⟩ ⟨Γ.sl, Γ.mm.set j y⟩ ∧ Nx m Γ.mm ⟨m.I, upd m.H (m.as j) o, m.as⟩ (Γ.mm.set j y) := by
  have hj := (List.getElem?_eq_some_iff.mp h).1
  have lj : live Γ.mm j := ⟨x, h, hx⟩
  obtain ⟨n0, o0, ho0⟩ := (A.mm j x h).there hx
  have lv : ∀ k, live (Γ.mm.set j y) k → live Γ.mm k := fun k ⟨z, hz, hq⟩ => by
    by_cases e : k = j
    · rw [e]; exact lj
    · rw [List.getElem?_set_ne (Ne.symm e)] at hz; exact ⟨z, hz, hq⟩
  have ih : Ex m.I (upd m.H (m.as j) o) := fun a u q => by
    have z : a ≠ m.as j := fun z => by rw [z, n0] at q; cases q
    rw [upd_ne z]; exact A.ih a u q
  refine ⟨⟨ih, fun i u h => ?_, fun k z hz => ?_, fun k l hk hl ne => A.ne k l (lv k hk) (lv l hl) ne, A.len⟩, ⟨Ex.refl _, fun a u hu n => ?_, fun _ _ _ => rfl, fun a hu => ?_, fun _ _ => rfl, by rw [List.length_set]; exact Nat.le_refl _, fun k hk => .inl (lv k hk)⟩⟩
  · obtain ⟨v, h1, h2⟩ := A.sl i u h
    exact ⟨v, h1, by rw [List.length_set]; exact h2⟩
  · show CellOk K m.I (upd m.H (m.as j) o) m.as (Γ.mm.set j y).length (m.as k) z
    rw [List.length_set]
    by_cases e : k = j
    · subst e
      rw [List.getElem?_set_self hj] at hz
      cases hz
      exact ho
    · rw [List.getElem?_set_ne (Ne.symm e)] at hz
      by_cases hg : z = .gone
      · subst hg; trivial
      · have ne := A.ne k j ⟨z, hz, hg⟩ lj e
        have q := A.mm k z hz
        cases z with
        | p d => obtain ⟨a1, o1, a2, a3⟩ := q; exact ⟨a1, o1, by rw [upd_ne ne]; exact a2, a3⟩
        | n us => obtain ⟨a1, o1, a2, a3⟩ := q; exact ⟨a1, o1, by rw [upd_ne ne]; exact a2, a3⟩
        | gone => trivial
  · show upd m.H (m.as j) o a = some u
    rw [upd_ne (Ne.symm (n j lj))]; exact hu
  · show upd m.H (m.as j) o a ≠ none
    by_cases e : a = m.as j
    · rw [e, upd_same]; exact nofun
    · rw [upd_ne e]; exact hu
end
end S

namespace S
open PySem PySem.Spec L2
open G (Ex Gr ex_l ex_t ExnAt exx exx_ok)
/-! ### what a reading must reach -/
abbrev Rel (α β : Type) := Wd → Nat → β → α → Prop
def Post {α β : Type} (K : PySem.W.Frag) (W : WX) (σ : L2.St) (m : Wd) (mm : List Cell) (rel : Rel α β) (r : Rs α) (Q : β → Hp → Prop) : Prop := match r with
  | .st => False
  | .ok a Γ' => ∀ m' b, Nx m mm m' Γ'.mm → At K σ m' Γ' → rel m' Γ'.mm.length b a → Q b m'.H
  | .ex x Γ' => ∀ m' C dx, Nx m mm m' Γ'.mm → At K σ m' Γ' → clsA K x.C = some C → XdAt K m'.I m'.H m.H dx x.ns x.ds → W (.ref C) (some dx) σ m'.H
def J {α β : Type} (K : PySem.W.Frag) (W : WX) (rel : Rel α β) (t : L2.St → Hp → (β → Hp → Prop) → Prop) (s : Sg → Rs α) : Prop :=
  ∀ (Γ : Sg) (σ : L2.St) (m : Wd), At K σ m Γ → ∀ Q, Post K W σ m Γ.mm rel (s Γ) Q → t σ m.H Q
theorem Post.tr {α β : Type} {K : PySem.W.Frag} {W : WX} {σ : L2.St} {m m1 : Wd} {mm mm1 : List Cell} {rel : Rel α β} {r : Rs α} {Q : β → Hp → Prop} (p : Post K W σ m mm rel r Q) (x : Nx m mm m1 mm1) : Post K W σ m1 mm1 rel r Q := by
  cases r with
  | st => exact p
  | ok a g => exact fun m' b nx A r => p m' b (x.trans nx) A r
  | ex e g => exact fun m' C dx nx A hc hd => p m' C dx (x.trans nx) A hc (hd.back x.th)
section
variable {α β α2 β2 : Type} {K : PySem.W.Frag} {W : WX} {rel : Rel α β} {rel2 : Rel α2 β2} {t : L2.St → Hp → (β → Hp → Prop) → Prop} {s : Sg → Rs α} {Γ : Sg} {σ : L2.St} {m : Wd}
theorem J.step (h : J K W rel t s) (A : At K σ m Γ) {f : α → Sg → Rs α2} {Q2 : β2 → Hp → Prop} {R : β → Hp → Prop} (p : Post K W σ m Γ.mm rel2 ((s Γ).bind f) Q2)
    (k : ∀ a Γ1 m1 b, Nx m Γ.mm m1 Γ1.mm → At K σ m1 Γ1 → rel m1 Γ1.mm.length b a → Post K W σ m1 Γ1.mm rel2 (f a Γ1) Q2 → R b m1.H) : t σ m.H R := by
  refine h Γ σ m A R ?_
  cases hs : s Γ with
  | st => rw [hs] at p; exact p
  | ex x Γ' => rw [hs] at p; exact p
  | ok a Γ1 => rw [hs] at p; exact fun m' b nx A1 r => k a Γ1 m' b nx A1 r (Post.tr p nx)
end
def rV (K : PySem.W.Frag) : Rel U V := fun m n v u => RU K m.I m.as n v u
def rA (K : PySem.W.Frag) : Rel (List U) (List V) := fun m n vs us => RUs K m.I m.as n vs us
def rEq {α : Type} : Rel α α := fun _ _ b a => b = a
abbrev SE (K : PySem.W.Frag) (W : WX) (te : TE) (s : Sg → Rs U) : Prop := J K W (rV K) te s
abbrev SA (K : PySem.W.Frag) (W : WX) (ta : TA) (s : Sg → Rs (List U)) : Prop := J K W (rA K) ta s
abbrev ST (K : PySem.W.Frag) (W : WX) (tt : TT) (s : Sg → Rs Bool) : Prop := J K W rEq tt s
abbrev SO (K : PySem.W.Frag) (W : WX) (to : TO) (s : Sg → Rs (Option Int)) : Prop := J K W rEq to s
/-! ### reading cells -/
def dr (mm : List Cell) : U → Option D
  | .d x => some x
  | .lc j => match mm[j]? with
    | some (.p d) => some d
    | _ => none
def drs (mm : List Cell) : List U → Option (List D)
  | [] => some []
  | u :: us => (dr mm u).bind fun d => (drs mm us).bind fun ds => some (d :: ds)
@[simp] theorem dr_d (mm : List Cell) (x : D) : dr mm (.d x) = some x := rfl
theorem At.dr {K : PySem.W.Frag} {σ : L2.St} {m : Wd} {Γ : Sg} (A : At K σ m Γ) {n : Nat} {v : V} {u : U} {x : D} (r : RU K m.I m.as n v u) (h : dr Γ.mm u = some x) : RpL K m.I m.H v x := by
  cases r with
  | d r => cases h; exact .p r
  | @lc j hj =>
    unfold S.dr at h
    cases q : Γ.mm[j]? with
    | none => simp only [q] at h; cases h
    | some y =>
      simp only [q] at h
      cases y with
      | p d =>
        cases h
        obtain ⟨_, o, h1, h2⟩ := A.mm j _ q
        exact .m h1 h2
      | n us => cases h
      | gone => cases h
theorem At.drs {K : PySem.W.Frag} {σ : L2.St} {m : Wd} {Γ : Sg} (A : At K σ m Γ) {n : Nat} : ∀ {vs : List V} {us : List U} {xs : List D}, RUs K m.I m.as n vs us → drs Γ.mm us = some xs → RpLs K m.I m.H vs xs
  | _, _, _, .nil, h => by cases h; exact .nil
  | _, _, _, .cons r rs, h => by
    unfold S.drs at h
    obtain ⟨d, h1, h⟩ := Option.bind_eq_some_iff.mp h
    obtain ⟨ds, h2, h⟩ := Option.bind_eq_some_iff.mp h
    cases h
    exact .cons (A.dr r h1) (A.drs rs h2)
/-- pure data alone -/
def pu : U → Option D
  | .d x => some x
  | .lc _ => none
def pus : List U → Option (List D)
  | [] => some []
  | u :: us => (pu u).bind fun d => (pus us).bind fun ds => some (d :: ds)
@[simp] theorem pu_d (x : D) : pu (.d x) = some x := rfl
theorem RU.pu {K : PySem.W.Frag} {I : Hp} {as : Nat → Addr} {n : Nat} {v : V} {u : U} {x : D} (r : RU K I as n v u) (h : pu u = some x) : Rp K I v x := by
  cases r with
  | d r => cases h; exact r
  | lc _ => cases h
theorem RUs.pu {K : PySem.W.Frag} {I : Hp} {as : Nat → Addr} {n : Nat} : ∀ {vs : List V} {us : List U} {xs : List D}, RUs K I as n vs us → pus us = some xs → Rps K I vs xs
  | _, _, _, .nil, h => by cases h; exact .nil
  | _, _, _, .cons r rs, h => by
    unfold S.pus at h
    obtain ⟨d, h1, h⟩ := Option.bind_eq_some_iff.mp h
    obtain ⟨ds, h2, h⟩ := Option.bind_eq_some_iff.mp h
    cases h
    exact .cons (r.pu h1) (rs.pu h2)
@[simp] theorem pus_map (ds : List D) : pus (ds.map U.d) = some ds := by
  induction ds with
  | nil => rfl
  | cons d ds ih => simp [pus, ih]
/-! ### ends: a value, a new cell -/
def ofO (o : Option D) (Γ : Sg) : Rs U := match o with
  | some d => .ok (.d d) Γ
  | none => .st
def ofA (o : Option D) (Γ : Sg) : Rs U := match o with
  | some d => .ok (.lc Γ.mm.length) ⟨Γ.sl, Γ.mm ++ [.p d]⟩
  | none => .st
@[simp] theorem ofO_some (d : D) (Γ : Sg) : ofO (some d) Γ = .ok (.d d) Γ := rfl
@[simp] theorem ofO_none (Γ : Sg) : ofO none Γ = .st := rfl
@[simp] theorem ofA_some (d : D) (Γ : Sg) : ofA (some d) Γ = .ok (.lc Γ.mm.length) ⟨Γ.sl, Γ.mm ++ [.p d]⟩ := rfl
@[simp] theorem ofA_none (Γ : Sg) : ofA none Γ = .st := rfl
section
variable {K : PySem.W.Frag} {W : WX} {Γ : Sg} {σ : L2.St} {m : Wd} {Q : VK}
theorem Post.o {o : Option D} (A : At K σ m Γ) (p : Post K W σ m Γ.mm (rV K) (ofO o Γ) Q) : ∃ d, o = some d ∧ ∀ I' H' w, Gr [] m.I m.H I' H' → Rp K I' w d → Q w H' := by
  cases o with
  | none => exact p.elim
  | some d => exact ⟨d, rfl, fun I' H' w g r => p ⟨I', H', m.as⟩ w (.g g) (A.g g) (.d r)⟩
theorem Post.a {o : Option D} (A : At K σ m Γ) (p : Post K W σ m Γ.mm (rV K) (ofA o Γ) Q) : ∃ d, o = some d ∧ ∀ a ob, m.H a = none → MRp K m.I ob d → Q (.ref a) (upd m.H a ob) := by
  cases o with
  | none => exact p.elim
  | some d =>
    refine ⟨d, rfl, fun a ob ha r => ?_⟩
    obtain ⟨B, nx⟩ := A.alloc (x := .p d) (o := ob) ha ⟨A.ih.free ha, ob, upd_same, r⟩ nofun
    have := p _ (.ref (updA m.as Γ.mm.length a Γ.mm.length)) nx B (.lc (by rw [List.length_append]; exact Nat.lt_succ_self _))
    rw [updA_same] at this
    exact this
end
/-! ### operations on data -/
def BinS (K : PySem.W.Frag) (r : R2) (f : D → D → Option D) : Prop := ∀ x y d, f x y = some d → ∀ (I H : Hp) (u v : V), Ex I H → RpL K I H u x → RpL K I H v y → ∀ Q : VK, (∀ I' H' w, Gr [] I H I' H' → Rp K I' w d → Q w H') → r u v H Q
def BinF (K : PySem.W.Frag) (r : R2) (f : D → D → Option D) : Prop := ∀ x y d, f x y = some d → ∀ (I H : Hp) (u v : V), Ex I H → RpL K I H u x → RpL K I H v y → ∀ Q : VK, (∀ a o, H a = none → MRp K I o d → Q (.ref a) (upd H a o)) → r u v H Q
def UnS (K : PySem.W.Frag) (r : V → Hp → VK → Prop) (f : D → Option D) : Prop := ∀ x d, f x = some d → ∀ (I H : Hp) (u : V), Ex I H → RpL K I H u x → ∀ Q : VK, (∀ I' H' w, Gr [] I H I' H' → Rp K I' w d → Q w H') → r u H Q
def CaS (K : PySem.W.Frag) (r : List V → Hp → VK → Prop) (f : List D → Option D) : Prop := ∀ xs d, f xs = some d → ∀ (I H : Hp) (us : List V), Ex I H → RpLs K I H us xs → ∀ Q : VK, (∀ I' H' w, Gr [] I H I' H' → Rp K I' w d → Q w H') → r us H Q
def CaF (K : PySem.W.Frag) (r : List V → Hp → VK → Prop) (f : List D → Option D) : Prop := ∀ xs d, f xs = some d → ∀ (I H : Hp) (us : List V), Ex I H → RpLs K I H us xs → ∀ Q : VK, (∀ a o, H a = none → MRp K I o d → Q (.ref a) (upd H a o)) → r us H Q
theorem fresh_q {K : PySem.W.Frag} {I H : Hp} {d : D} {Q : VK} (e : Ex I H) (q : ∀ I' H' w, Gr [] I H I' H' → Rp K I' w d → Q w H') : ∀ a o, H a = none → MRp K I o d → Q (.ref a) (upd H a o) := fun a o ha r =>
  q _ _ _ (Gr.new e ha) ((r.mono (Ex.new (e.free ha))).rp upd_same)
theorem BinF.s {K : PySem.W.Frag} {r : R2} {f : D → D → Option D} (h : BinF K r f) : BinS K r f := fun x y d hf I H u v e r1 r2 Q q => h x y d hf I H u v e r1 r2 Q (fresh_q e q)
theorem CaF.s {K : PySem.W.Frag} {r : List V → Hp → VK → Prop} {f : List D → Option D} (h : CaF K r f) : CaS K r f := fun xs d hf I H us e r1 Q q => h xs d hf I H us e r1 Q (fresh_q e q)
def sVar (i : Nat) : Sg → Rs U := fun Γ => match Γ.sl[i]? with
  | some (some u) => .ok u Γ
  | _ => .st
def sC (d : D) : Sg → Rs U := fun Γ => .ok (.d d) Γ
def sOp (f : D → D → Option D) (a b : Sg → Rs U) : Sg → Rs U := fun Γ => (a Γ).bind fun x Γ1 => (b Γ1).bind fun y Γ2 => ofO ((dr Γ2.mm x).bind fun x => (dr Γ2.mm y).bind fun y => f x y) Γ2
def sOpA (f : D → D → Option D) (a b : Sg → Rs U) : Sg → Rs U := fun Γ => (a Γ).bind fun x Γ1 => (b Γ1).bind fun y Γ2 => ofA ((dr Γ2.mm x).bind fun x => (dr Γ2.mm y).bind fun y => f x y) Γ2
def sUn (f : D → Option D) (a : Sg → Rs U) : Sg → Rs U := fun Γ => (a Γ).bind fun x Γ1 => ofO ((dr Γ1.mm x).bind f) Γ1
def sCb (f : List D → Option D) (a : Sg → Rs (List U)) : Sg → Rs U := fun Γ => (a Γ).bind fun xs Γ1 => ofO ((drs Γ1.mm xs).bind f) Γ1
def sCbA (f : List D → Option D) (a : Sg → Rs (List U)) : Sg → Rs U := fun Γ => (a Γ).bind fun xs Γ1 => ofA ((drs Γ1.mm xs).bind f) Γ1
def sNil : Sg → Rs (List U) := fun Γ => .ok [] Γ
def sCons (a : Sg → Rs U) (r : Sg → Rs (List U)) : Sg → Rs (List U) := fun Γ => (a Γ).bind fun x Γ1 => (r Γ1).bind fun xs Γ2 => .ok (x :: xs) Γ2
section
variable {K : PySem.W.Frag} {W : WX} {ta tb tc te : TE} {a b d s : Sg → Rs U}
theorem se_var {i : Nat} : SE K W (tVar i) (sVar i) := fun Γ σ m A Q p => by
  unfold sVar at p
  cases h : Γ.sl[i]? with
  | none => rw [h] at p; exact p.elim
  | some o =>
    cases o with
    | none => rw [h] at p; exact p.elim
    | some u =>
      rw [h] at p
      obtain ⟨v, hv, r⟩ := A.sl i u h
      exact ⟨v, hv, p m v .refl A r⟩
theorem se_c {v : V} {x : D} (h : ∀ I, Rp K I v x) : SE K W (tC v) (sC x) := fun Γ σ m A Q p => p m v .refl A (.d (h _))
theorem se_int {i : Int} : SE K W (tC (.int i)) (sC (.int i)) := se_c fun _ => .int i
theorem se_str {i : Str} : SE K W (tC (.str i)) (sC (.str i)) := se_c fun _ => .str i
theorem se_bl {i : Bool} : SE K W (tC (.bl i)) (sC (.bl i)) := se_c fun _ => .bl i
theorem se_non : SE K W (tC .non) (sC .non) := se_c fun _ => .non
theorem se_ty {n : String} : SE K W (tC (.ty n)) (sC (.ty n)) := se_c fun _ => .ty n
theorem se_op {r : R2} {f : D → D → Option D} (hr : BinS K r f) (h1 : SE K W ta a) (h2 : SE K W tb b) : SE K W (tOp r ta tb) (sOp f a b) := fun Γ σ m A Q p => by
  refine h1.step A p fun x Γ1 m1 v n1 A1 r1 p1 => h2.step A1 p1 fun y Γ2 m2 w n2 A2 r2 p2 => ?_
  obtain ⟨d, hd, q⟩ := p2.o A2
  obtain ⟨x', hx, hd⟩ := Option.bind_eq_some_iff.mp hd
  obtain ⟨y', hy, hd⟩ := Option.bind_eq_some_iff.mp hd
  exact hr x' y' d hd m2.I m2.H v w A2.ih (A2.dr (RU.mono n2 r1) hx) (A2.dr r2 hy) Q q
theorem se_opA {r : R2} {f : D → D → Option D} (hr : BinF K r f) (h1 : SE K W ta a) (h2 : SE K W tb b) : SE K W (tOp r ta tb) (sOpA f a b) := fun Γ σ m A Q p => by
  refine h1.step A p fun x Γ1 m1 v n1 A1 r1 p1 => h2.step A1 p1 fun y Γ2 m2 w n2 A2 r2 p2 => ?_
  obtain ⟨d, hd, q⟩ := p2.a A2
  obtain ⟨x', hx, hd⟩ := Option.bind_eq_some_iff.mp hd
  obtain ⟨y', hy, hd⟩ := Option.bind_eq_some_iff.mp hd
  exact hr x' y' d hd m2.I m2.H v w A2.ih (A2.dr (RU.mono n2 r1) hx) (A2.dr r2 hy) Q q
theorem se_un {r : V → Hp → VK → Prop} {f : D → Option D} (hr : UnS K r f) (h1 : SE K W ta a) : SE K W (tUn r ta) (sUn f a) := fun Γ σ m A Q p => by
  refine h1.step A p fun x Γ1 m1 v n1 A1 r1 p1 => ?_
  obtain ⟨d, hd, q⟩ := p1.o A1
  obtain ⟨x', hx, hd⟩ := Option.bind_eq_some_iff.mp hd
  exact hr x' d hd m1.I m1.H v A1.ih (A1.dr r1 hx) Q q
theorem sa_nil : SA K W tNil sNil := fun Γ σ m A Q p => p m [] .refl A .nil
theorem sa_cons {tr : TA} {r : Sg → Rs (List U)} (h1 : SE K W ta a) (h2 : SA K W tr r) : SA K W (tCons ta tr) (sCons a r) := fun Γ σ m A Q p => by
  refine h1.step A p fun x Γ1 m1 v n1 A1 r1 p1 => h2.step A1 p1 fun y Γ2 m2 w n2 A2 r2 p2 => ?_
  exact p2 m2 (v :: w) .refl A2 (.cons (RU.mono n2 r1) r2)
theorem se_cb {tr : TA} {r : Sg → Rs (List U)} {rr : List V → Hp → VK → Prop} {f : List D → Option D} (hr : CaS K rr f) (h1 : SA K W tr r) : SE K W (tCB rr tr) (sCb f r) := fun Γ σ m A Q p => by
  refine h1.step A p fun x Γ1 m1 v n1 A1 r1 p1 => ?_
  obtain ⟨d, hd, q⟩ := p1.o A1
  obtain ⟨x', hx, hd⟩ := Option.bind_eq_some_iff.mp hd
  exact hr x' d hd m1.I m1.H v A1.ih (A1.drs r1 hx) Q q
theorem se_cbA {tr : TA} {r : Sg → Rs (List U)} {rr : List V → Hp → VK → Prop} {f : List D → Option D} (hr : CaF K rr f) (h1 : SA K W tr r) : SE K W (tCB rr tr) (sCbA f r) := fun Γ σ m A Q p => by
  refine h1.step A p fun x Γ1 m1 v n1 A1 r1 p1 => ?_
  obtain ⟨d, hd, q⟩ := p1.a A1
  obtain ⟨x', hx, hd⟩ := Option.bind_eq_some_iff.mp hd
  exact hr x' d hd m1.I m1.H v A1.ih (A1.drs r1 hx) Q q
/-! ### displays -/
def sTup (a : Sg → Rs (List U)) : Sg → Rs U := fun Γ => (a Γ).bind fun xs Γ1 => ofO ((pus xs).bind fun ds => if ds.length ≤ sizeLine then some (.tup ds) else none) Γ1
def sLst (a : Sg → Rs (List U)) : Sg → Rs U := fun Γ => (a Γ).bind fun xs Γ1 => ofO ((pus xs).bind fun ds => if ds.length ≤ sizeLine then some (.lst ds) else none) Γ1
def sLstA (a : Sg → Rs (List U)) : Sg → Rs U := fun Γ => (a Γ).bind fun xs Γ1 => ofA ((pus xs).bind fun ds => if ds.length ≤ sizeLine then some (.lst ds) else none) Γ1
/-- a list of lists that may change -/
def sLstN (a : Sg → Rs (List U)) : Sg → Rs U := fun Γ => (a Γ).bind fun xs Γ1 => if xs.length ≤ sizeLine then .ok (.lc Γ1.mm.length) ⟨Γ1.sl, Γ1.mm ++ [.n xs]⟩ else .st
theorem guard_eq {P : Prop} [Decidable P] {α : Type} {a d : α} (h : (if P then some a else none) = some d) : P ∧ a = d := by
  split at h
  · exact ⟨by assumption, by simpa using h⟩
  · cases h
theorem se_tup {tr : TA} {r : Sg → Rs (List U)} (h1 : SA K W tr r) : SE K W (tTup tr) (sTup r) := fun Γ σ m A Q p => by
  refine h1.step A p fun x Γ1 m1 v n1 A1 r1 p1 => ?_
  obtain ⟨d, hd, q⟩ := p1.o A1
  obtain ⟨ds, hx, hd⟩ := Option.bind_eq_some_iff.mp hd
  obtain ⟨hl, rfl⟩ := guard_eq hd
  have rs := RUs.pu r1 hx
  exact ⟨by rw [rs.length]; exact hl, fun p hp => q _ _ _ (Gr.new A1.ih hp) (.tup upd_same (rs.mono (Ex.new (A1.ih.free hp))))⟩
theorem se_lst {tr : TA} {r : Sg → Rs (List U)} (h1 : SA K W tr r) : SE K W (tLst tr) (sLst r) := fun Γ σ m A Q p => by
  refine h1.step A p fun x Γ1 m1 v n1 A1 r1 p1 => ?_
  obtain ⟨d, hd, q⟩ := p1.o A1
  obtain ⟨ds, hx, hd⟩ := Option.bind_eq_some_iff.mp hd
  obtain ⟨hl, rfl⟩ := guard_eq hd
  have rs := RUs.pu r1 hx
  exact ⟨by rw [rs.length]; exact hl, fun p hp => q _ _ _ (Gr.new A1.ih hp) (.lst upd_same (rs.mono (Ex.new (A1.ih.free hp))))⟩
theorem se_lstA {tr : TA} {r : Sg → Rs (List U)} (h1 : SA K W tr r) : SE K W (tLst tr) (sLstA r) := fun Γ σ m A Q p => by
  refine h1.step A p fun x Γ1 m1 v n1 A1 r1 p1 => ?_
  obtain ⟨d, hd, q⟩ := p1.a A1
  obtain ⟨ds, hx, hd⟩ := Option.bind_eq_some_iff.mp hd
  obtain ⟨hl, rfl⟩ := guard_eq hd
  have rs := RUs.pu r1 hx
  exact ⟨by rw [rs.length]; exact hl, fun p hp => q p _ hp (.lst rs)⟩
theorem se_lstN {tr : TA} {r : Sg → Rs (List U)} (h1 : SA K W tr r) : SE K W (tLst tr) (sLstN r) := fun Γ σ m A Q p => by
  refine h1.step A p fun x Γ1 m1 v n1 A1 r1 p1 => ?_
  split at p1
  · rename_i hl
    refine ⟨by rw [RUs.length r1]; exact hl, fun a ha => ?_⟩
    obtain ⟨B, nx⟩ := A1.alloc (x := .n x) (o := .lst v) ha ⟨A1.ih.free ha, v, upd_same, r1⟩ nofun
    have := p1 _ (.ref (updA m1.as Γ1.mm.length a Γ1.mm.length)) nx B (.lc (by rw [List.length_append]; exact Nat.lt_succ_self _))
    rw [updA_same] at this
    exact this
  · exact p1.elim
/-! ### tests -/
def tr1 (mm : List Cell) (u : U) : Option Bool := (dr mm u).bind fun d => match d with
  | .bl b => some b
  | _ => none
def ofB (o : Option Bool) (Γ : Sg) : Rs Bool := match o with
  | some b => .ok b Γ
  | none => .st
@[simp] theorem ofB_some (b : Bool) (Γ : Sg) : ofB (some b) Γ = .ok b Γ := rfl
@[simp] theorem ofB_none (Γ : Sg) : ofB none Γ = .st := rfl
@[simp] theorem tr1_bl (mm : List Cell) (b : Bool) : tr1 mm (.d (.bl b)) = some b := rfl
def tB1 (a : Sg → Rs U) : Sg → Rs Bool := fun Γ => (a Γ).bind fun x Γ1 => ofB (tr1 Γ1.mm x) Γ1
theorem bool_of {K : PySem.W.Frag} {W : WX} {Γ : Sg} {σ : L2.St} {m : Wd} {Q : Bool → Hp → Prop} {n : Nat} {v : V} {u : U} (A : At K σ m Γ) (r : RU K m.I m.as n v u) (p : Post K W σ m Γ.mm rEq (ofB (tr1 Γ.mm u) Γ) Q) : ∃ k, v = .bl k ∧ Q k m.H := by
  cases h : tr1 Γ.mm u with
  | none => rw [h] at p; exact p.elim
  | some b =>
    rw [h] at p
    unfold tr1 at h
    obtain ⟨d, h1, h2⟩ := Option.bind_eq_some_iff.mp h
    cases d with
    | bl k => cases h2; exact ⟨b, (A.dr r h1).bl, p m b .refl A rfl⟩
    | _ => cases h2
theorem st_test (h1 : SE K W ta a) : ST K W (tTest ta) (tB1 a) := fun Γ σ m A Q p => by
  exact h1.step A p fun x Γ1 m1 v n1 A1 r1 p1 => bool_of A1 r1 p1
theorem st_b (h1 : SE K W ta a) : ST K W (tB ta) (tB1 a) := fun Γ σ m A Q p => by
  exact h1.step A p fun x Γ1 m1 v n1 A1 r1 p1 => bool_of A1 r1 p1
def tNot1 (a : Sg → Rs Bool) : Sg → Rs Bool := fun Γ => (a Γ).bind fun x Γ1 => .ok (!x) Γ1
def tAnd1 (a b : Sg → Rs Bool) : Sg → Rs Bool := fun Γ => (a Γ).bind fun x Γ1 => if x then b Γ1 else .ok false Γ1
def tOr1 (a b : Sg → Rs Bool) : Sg → Rs Bool := fun Γ => (a Γ).bind fun x Γ1 => if x then .ok true Γ1 else b Γ1
def tYes1 : Sg → Rs Bool := fun Γ => .ok true Γ
variable {t u : TT} {p q : Sg → Rs Bool}
theorem st_yes : ST K W tYes tYes1 := fun Γ σ m A Q p => p m true .refl A rfl
theorem st_not (h1 : ST K W t p) : ST K W (tNot t) (tNot1 p) := fun Γ σ m A Q p => by
  exact h1.step A p fun x Γ1 m1 v n1 A1 r1 p1 => by
    obtain rfl : v = x := r1
    exact p1 m1 (!v) .refl A1 rfl
theorem st_and (h1 : ST K W t p) (h2 : ST K W u q) : ST K W (tAnd t u) (tAnd1 p q) := fun Γ σ m A Q p => by
  exact h1.step A p fun x Γ1 m1 v n1 A1 r1 p1 => by
    obtain rfl : v = x := r1
    cases v with
    | true => rw [if_pos rfl]; exact h2 Γ1 σ m1 A1 Q p1
    | false => rw [if_neg Bool.false_ne_true]; exact p1 m1 false .refl A1 rfl
theorem st_or (h1 : ST K W t p) (h2 : ST K W u q) : ST K W (tOr t u) (tOr1 p q) := fun Γ σ m A Q p => by
  exact h1.step A p fun x Γ1 m1 v n1 A1 r1 p1 => by
    obtain rfl : v = x := r1
    cases v with
    | true => rw [if_pos rfl]; exact p1 m1 true .refl A1 rfl
    | false => rw [if_neg Bool.false_ne_true]; exact h2 Γ1 σ m1 A1 Q p1
/-- a and b, a or b, not a as values, the first ones truths -/
def sAnd (a b : Sg → Rs U) : Sg → Rs U := fun Γ => (a Γ).bind fun x Γ1 => match tr1 Γ1.mm x with
  | some true => b Γ1
  | some false => .ok (.d (.bl false)) Γ1
  | none => .st
def sOr (a b : Sg → Rs U) : Sg → Rs U := fun Γ => (a Γ).bind fun x Γ1 => match tr1 Γ1.mm x with
  | some true => .ok (.d (.bl true)) Γ1
  | some false => b Γ1
  | none => .st
def sNot (a : Sg → Rs U) : Sg → Rs U := fun Γ => (a Γ).bind fun x Γ1 => match tr1 Γ1.mm x with
  | some k => .ok (.d (.bl (!k))) Γ1
  | none => .st
theorem tr1_v {K : PySem.W.Frag} {Γ : Sg} {σ : L2.St} {m : Wd} {n : Nat} {v : V} {u : U} {k : Bool} (A : At K σ m Γ) (r : RU K m.I m.as n v u) (h : tr1 Γ.mm u = some k) : v = .bl k := by
  unfold tr1 at h
  obtain ⟨d, h1, h2⟩ := Option.bind_eq_some_iff.mp h
  cases d with
  | bl k => cases h2; exact (A.dr r h1).bl
  | _ => cases h2
theorem se_andV (h1 : SE K W ta a) (h2 : SE K W tb b) : SE K W (tAndV ta tb) (sAnd a b) := fun Γ σ m A Q p => by
  exact h1.step A p fun x Γ1 m1 v n1 A1 r1 p1 => by
    cases h : tr1 Γ1.mm x with
    | none => rw [h] at p1; exact p1.elim
    | some k =>
      rw [h] at p1
      refine ⟨k, tr1_v A1 r1 h, ?_⟩
      cases k with
      | true => exact h2 Γ1 σ m1 A1 Q p1
      | false => exact p1 m1 _ .refl A1 (.d (.bl false))
theorem se_orV (h1 : SE K W ta a) (h2 : SE K W tb b) : SE K W (tOrV ta tb) (sOr a b) := fun Γ σ m A Q p => by
  exact h1.step A p fun x Γ1 m1 v n1 A1 r1 p1 => by
    cases h : tr1 Γ1.mm x with
    | none => rw [h] at p1; exact p1.elim
    | some k =>
      rw [h] at p1
      refine ⟨k, tr1_v A1 r1 h, ?_⟩
      cases k with
      | true => exact p1 m1 _ .refl A1 (.d (.bl true))
      | false => exact h2 Γ1 σ m1 A1 Q p1
theorem se_notV (h1 : SE K W ta a) : SE K W (tNotV ta) (sNot a) := fun Γ σ m A Q p => by
  exact h1.step A p fun x Γ1 m1 v n1 A1 r1 p1 => by
    cases h : tr1 Γ1.mm x with
    | none => rw [h] at p1; exact p1.elim
    | some k =>
      rw [h] at p1
      exact ⟨k, tr1_v A1 r1 h, p1 m1 _ .refl A1 (.d (.bl (!k)))⟩
def sIfE (t : Sg → Rs Bool) (a b : Sg → Rs U) : Sg → Rs U := fun Γ => (t Γ).bind fun x Γ1 => if x then a Γ1 else b Γ1
theorem se_if (h0 : ST K W t p) (h1 : SE K W ta a) (h2 : SE K W tb b) : SE K W (tIf t ta tb) (sIfE p a b) := fun Γ σ m A Q p => by
  exact h0.step A p fun x Γ1 m1 v n1 A1 r1 p1 => by
    obtain rfl : v = x := r1
    cases v with
    | true => exact h1 Γ1 σ m1 A1 Q p1
    | false => exact h2 Γ1 σ m1 A1 Q p1
/-- a < b < c -/
def sChain (f g : D → D → Option D) (a b d : Sg → Rs U) : Sg → Rs U := fun Γ => (a Γ).bind fun x Γ1 => (b Γ1).bind fun y Γ2 => match (dr Γ2.mm x).bind fun x => (dr Γ2.mm y).bind fun y => f x y with
  | some (.bl true) => (d Γ2).bind fun z Γ3 => ofO ((dr Γ3.mm y).bind fun y => (dr Γ3.mm z).bind fun z => g y z) Γ3
  | some (.bl false) => .ok (.d (.bl false)) Γ2
  | _ => .st
theorem se_chain {r r' : R2} {f g : D → D → Option D} (hr : BinS K r f) (hr' : BinS K r' g) (h1 : SE K W ta a) (h2 : SE K W tb b) (h3 : SE K W tc d) : SE K W (tChain r r' ta tb tc) (sChain f g a b d) := fun Γ σ m A Q p => by
  refine h1.step A p fun x Γ1 m1 v n1 A1 r1 p1 => h2.step A1 p1 fun y Γ2 m2 w n2 A2 r2 p2 => ?_
  cases ho : (dr Γ2.mm x).bind fun x => (dr Γ2.mm y).bind fun y => f x y with
  | none => rw [ho] at p2; exact p2.elim
  | some e =>
    rw [ho] at p2
    obtain ⟨x', hx, hd⟩ := Option.bind_eq_some_iff.mp ho
    obtain ⟨y', hy, hd⟩ := Option.bind_eq_some_iff.mp hd
    refine hr x' y' e hd m2.I m2.H v w A2.ih (A2.dr (RU.mono n2 r1) hx) (A2.dr r2 hy) _ fun I3 H3 z g3 rz => ?_
    cases e with
    | bl k =>
      cases rz
      refine ⟨k, rfl, ?_⟩
      have A3 := A2.g g3
      cases k with
      | true =>
        rw [if_pos rfl]
        refine h3.step A3 (Post.tr p2 (.g g3)) fun z Γ4 m4 w4 n4 A4 r4 p4 => ?_
        obtain ⟨d, hd, q⟩ := p4.o A4
        obtain ⟨x', hx, hd⟩ := Option.bind_eq_some_iff.mp hd
        obtain ⟨y', hy, hd⟩ := Option.bind_eq_some_iff.mp hd
        exact hr' x' y' d hd m4.I m4.H w w4 A4.ih (A4.dr (RU.mono ((Nx.g g3).trans n4) r2) hx) (A4.dr r4 hy) Q q
      | false =>
        rw [if_neg Bool.false_ne_true]
        exact p2 ⟨I3, H3, m2.as⟩ _ (.g g3) A3 (.d (.bl false))
    | _ => exact p2.elim
/-! ### parts of a slice -/
def oNone : Sg → Rs (Option Int) := fun Γ => .ok none Γ
def oSome (a : Sg → Rs U) : Sg → Rs (Option Int) := fun Γ => (a Γ).bind fun x Γ1 => match dr Γ1.mm x with
  | some (.int i) => .ok (some i) Γ1
  | _ => .st
theorem so_none : SO K W tNoPart oNone := fun Γ σ m A Q p => p m none .refl A rfl
theorem so_some (h1 : SE K W ta a) : SO K W (tPart ta) (oSome a) := fun Γ σ m A Q p => by
  exact h1.step A p fun x Γ1 m1 v n1 A1 r1 p1 => by
    cases h : dr Γ1.mm x with
    | none => rw [h] at p1; exact p1.elim
    | some d =>
      rw [h] at p1
      cases d with
      | int i => exact ⟨i, (A1.dr r1 h).int, p1 m1 _ .refl A1 rfl⟩
      | _ => exact p1.elim
def SlS (K : PySem.W.Frag) (r : V → Option Int → Option Int → Hp → VK → Prop) (f : D → Option Int → Option Int → Option D) : Prop := ∀ x lo hi d, f x lo hi = some d → ∀ (I H : Hp) (u : V), Ex I H → RpL K I H u x → ∀ Q : VK, (∀ I' H' w, Gr [] I H I' H' → Rp K I' w d → Q w H') → r u lo hi H Q
def SlF (K : PySem.W.Frag) (r : V → Option Int → Option Int → Hp → VK → Prop) (f : D → Option Int → Option Int → Option D) : Prop := ∀ x lo hi d, f x lo hi = some d → ∀ (I H : Hp) (u : V), Ex I H → RpL K I H u x → ∀ Q : VK, (∀ a o, H a = none → MRp K I o d → Q (.ref a) (upd H a o)) → r u lo hi H Q
def sSl (f : D → Option Int → Option Int → Option D) (a : Sg → Rs U) (l h : Sg → Rs (Option Int)) : Sg → Rs U := fun Γ => (a Γ).bind fun x Γ1 => (l Γ1).bind fun lo Γ2 => (h Γ2).bind fun hi Γ3 => ofO ((dr Γ3.mm x).bind fun x => f x lo hi) Γ3
def sSlA (f : D → Option Int → Option Int → Option D) (a : Sg → Rs U) (l h : Sg → Rs (Option Int)) : Sg → Rs U := fun Γ => (a Γ).bind fun x Γ1 => (l Γ1).bind fun lo Γ2 => (h Γ2).bind fun hi Γ3 => ofA ((dr Γ3.mm x).bind fun x => f x lo hi) Γ3
theorem se_sl {r : V → Option Int → Option Int → Hp → VK → Prop} {f : D → Option Int → Option Int → Option D} {tl th : TO} {l h : Sg → Rs (Option Int)} (hr : SlS K r f) (h1 : SE K W ta a) (h2 : SO K W tl l) (h3 : SO K W th h) : SE K W (tSl r ta tl th) (sSl f a l h) := fun Γ σ m A Q p => by
  refine h1.step A p fun x Γ1 m1 v n1 A1 r1 p1 => h2.step A1 p1 fun lo Γ2 m2 w n2 A2 r2 p2 => h3.step A2 p2 fun hi Γ3 m3 w3 n3 A3 r3 p3 => ?_
  obtain rfl : w = lo := r2
  obtain rfl : w3 = hi := r3
  obtain ⟨d, hd, q⟩ := p3.o A3
  obtain ⟨x', hx, hd⟩ := Option.bind_eq_some_iff.mp hd
  exact hr x' w w3 d hd m3.I m3.H v A3.ih (A3.dr (RU.mono (n2.trans n3) r1) hx) Q q
theorem se_slA {r : V → Option Int → Option Int → Hp → VK → Prop} {f : D → Option Int → Option Int → Option D} {tl th : TO} {l h : Sg → Rs (Option Int)} (hr : SlF K r f) (h1 : SE K W ta a) (h2 : SO K W tl l) (h3 : SO K W th h) : SE K W (tSl r ta tl th) (sSlA f a l h) := fun Γ σ m A Q p => by
  refine h1.step A p fun x Γ1 m1 v n1 A1 r1 p1 => h2.step A1 p1 fun lo Γ2 m2 w n2 A2 r2 p2 => h3.step A2 p2 fun hi Γ3 m3 w3 n3 A3 r3 p3 => ?_
  obtain rfl : w = lo := r2
  obtain rfl : w3 = hi := r3
  obtain ⟨d, hd, q⟩ := p3.a A3
  obtain ⟨x', hx, hd⟩ := Option.bind_eq_some_iff.mp hd
  exact hr x' w w3 d hd m3.I m3.H v A3.ih (A3.dr (RU.mono (n2.trans n3) r1) hx) Q q
end
end S

namespace S
open PySem PySem.Spec L2
open G (Ex Gr ex_l ex_t ExnAt exx exx_ok)
/-! ### statements -/
inductive Fl where
  | nx | bk | ct | rt (d : D) | rf (j : Nat) (d : D)
  deriving Inhabited
/-- what is wished behind a statement run from m -/
def PostS (K : PySem.W.Frag) (W : WX) (m : Wd) (mm : List Cell) (r : Rs Fl) (De : Ends) : Prop := match r with
  | .st => False
  | .ok .nx Γ' => ∀ σ' m', Nx m mm m' Γ'.mm → At K σ' m' Γ' → De.nx σ' m'.H
  | .ok .bk Γ' => ∀ σ' m', Nx m mm m' Γ'.mm → At K σ' m' Γ' → De.bk σ' m'.H
  | .ok .ct Γ' => ∀ σ' m', Nx m mm m' Γ'.mm → At K σ' m' Γ' → De.ct σ' m'.H
  | .ok (.rt d) Γ' => ∀ σ' m' v, Nx m mm m' Γ'.mm → At K σ' m' Γ' → Rp K m'.I v d → De.rt v m'.H
  | .ok (.rf j d) Γ' => ∀ σ' m' o, Nx m mm m' Γ'.mm → At K σ' m' Γ' → Γ'.mm[j]? = some (.p d) → m'.I (m'.as j) = none → m'.H (m'.as j) = some o → MRp K m'.I o d → De.rt (.ref (m'.as j)) m'.H
  | .ex x Γ' => ∀ σ' m' C dx, Nx m mm m' Γ'.mm → At K σ' m' Γ' → clsA K x.C = some C → XdAt K m'.I m'.H m.H dx x.ns x.ds → W (.ref C) (some dx) σ' m'.H
theorem PostS.tr {K : PySem.W.Frag} {W : WX} {m m1 : Wd} {mm mm1 : List Cell} {r : Rs Fl} {De : Ends} (p : PostS K W m mm r De) (x : Nx m mm m1 mm1) : PostS K W m1 mm1 r De := by
  cases r with
  | st => exact p
  | ok f g =>
    cases f with
    | nx => exact fun σ' m' nx A => p σ' m' (x.trans nx) A
    | bk => exact fun σ' m' nx A => p σ' m' (x.trans nx) A
    | ct => exact fun σ' m' nx A => p σ' m' (x.trans nx) A
    | rt d => exact fun σ' m' v nx A => p σ' m' v (x.trans nx) A
    | rf j d => exact fun σ' m' o nx A => p σ' m' o (x.trans nx) A
  | ex e g => exact fun σ' m' C dx nx A hc hd => p σ' m' C dx (x.trans nx) A hc (hd.back x.th)
def SS (K : PySem.W.Frag) (W : WX) (ts : TS) (s : Sg → Rs Fl) : Prop := ∀ (Γ : Sg) (σ : L2.St) (m : Wd) (De : Ends), At K σ m Γ → PostS K W m Γ.mm (s Γ) De → ts De σ m.H
section
variable {α β : Type} {K : PySem.W.Frag} {W : WX} {rel : Rel α β} {t : L2.St → Hp → (β → Hp → Prop) → Prop} {s : Sg → Rs α} {Γ : Sg} {σ : L2.St} {m : Wd}
theorem J.stepS (h : J K W rel t s) (A : At K σ m Γ) {f : α → Sg → Rs Fl} {De : Ends} {R : β → Hp → Prop} (p : PostS K W m Γ.mm ((s Γ).bind f) De)
    (k : ∀ a Γ1 m1 b, Nx m Γ.mm m1 Γ1.mm → At K σ m1 Γ1 → rel m1 Γ1.mm.length b a → PostS K W m1 Γ1.mm (f a Γ1) De → R b m1.H) : t σ m.H R := by
  refine h Γ σ m A R ?_
  cases hs : s Γ with
  | st => rw [hs] at p; exact p
  | ex x Γ' => rw [hs] at p; exact fun m' C dx nx A' hc hd => p σ m' C dx nx A' hc hd
  | ok a Γ1 => rw [hs] at p; exact fun m' b nx A1 r => k a Γ1 m' b nx A1 r (PostS.tr p nx)
end
/-! ### targets: names, tuples of names -/
structure Tg (K : PySem.W.Frag) (g : TG) (ws : List Nat) (s : U → Sg → Option Sg) : Prop where
  run : ∀ (Γ Γ' : Sg) (σ : L2.St) (m : Wd) (u : U) (v : V), At K σ m Γ → RU K m.I m.as Γ.mm.length v u → s u Γ = some Γ' → ∀ Q : L2.St → Hp → Prop,
    (∀ σ', At K σ' m Γ' → Γ'.mm = Γ.mm → (∀ j, j ∉ ws → σ'[j]? = σ[j]?) → σ'.length = σ.length → Q σ' m.H) → g v σ m.H Q
structure Tgs (K : PySem.W.Frag) (g : TGs) (ws : List Nat) (s : List D → Sg → Option Sg) : Prop where
  run : ∀ (Γ Γ' : Sg) (σ : L2.St) (m : Wd) (us : List D) (vs : List V), At K σ m Γ → Rps K m.I vs us → s us Γ = some Γ' → ∀ Q : L2.St → Hp → Prop,
    (∀ σ', At K σ' m Γ' → Γ'.mm = Γ.mm → (∀ j, j ∉ ws → σ'[j]? = σ[j]?) → σ'.length = σ.length → Q σ' m.H) → g vs σ m.H Q
def gN (i : Nat) : U → Sg → Option Sg := fun u Γ => some ⟨Γ.sl.set i (some u), Γ.mm⟩
def gT (n : Nat) (gs : List D → Sg → Option Sg) : U → Sg → Option Sg := fun u Γ => match u with
  | .d (.tup ds) => if ds.length = n then gs ds Γ else none
  | _ => none
def gsN : List D → Sg → Option Sg := fun ds Γ => match ds with
  | [] => some Γ
  | _ => none
def gsC (g : U → Sg → Option Sg) (gs : List D → Sg → Option Sg) : List D → Sg → Option Sg := fun ds Γ => match ds with
  | d :: ds => (g (.d d) Γ).bind fun Γ1 => gs ds Γ1
  | [] => none
section
variable {K : PySem.W.Frag}
theorem tg_name {i : Nat} : Tg K (gName i) [i] (gN i) := ⟨fun Γ Γ' σ m u v A r h Q q => by
  cases h
  exact q _ (A.set r) rfl (fun j hj => List.getElem?_set_ne (fun z => hj (by rw [z]; exact List.mem_singleton.mpr rfl))) (by simp)⟩
theorem tgs_nil : Tgs K gNil [] gsN := ⟨fun Γ Γ' σ m us vs A r h Q q => by
  cases us with
  | nil => cases r; cases h; exact ⟨rfl, q σ A rfl (fun _ _ => rfl) rfl⟩
  | cons _ _ => cases h⟩
theorem tgs_cons {g : TG} {gs : TGs} {w1 w2 : List Nat} {s : U → Sg → Option Sg} {ss : List D → Sg → Option Sg} (h1 : Tg K g w1 s) (h2 : Tgs K gs w2 ss) : Tgs K (gCons g gs) (w1 ++ w2) (gsC s ss) := ⟨fun Γ Γ' σ m us vs A r h Q q => by
  cases r with
  | nil => cases h
  | cons a b =>
    obtain ⟨Γ1, e1, e2⟩ := Option.bind_eq_some_iff.mp h
    refine ⟨_, _, rfl, h1.run Γ Γ1 σ m _ _ A (.d a) e1 _ fun σ1 A1 m1 k1 n1 => h2.run Γ1 Γ' σ1 m _ _ A1 b e2 _ fun σ2 A2 m2 k2 n2 => q σ2 A2 (m2.trans m1) (fun j hj => ?_) (n2.trans n1)⟩
    rw [List.mem_append] at hj
    exact (k2 j fun z => hj (.inr z)).trans (k1 j fun z => hj (.inl z))⟩
theorem tg_tup {gs : TGs} {n : Nat} {ws : List Nat} {ss : List D → Sg → Option Sg} (h : Tgs K gs ws ss) : Tg K (gTup K n gs) ws (gT n ss) := ⟨fun Γ Γ' σ m u v A r e Q q => by
  cases r with
  | lc _ => cases e
  | d r =>
    cases r with
    | tup hs hr =>
      rename_i ds
      by_cases hl : ds.length = n
      · simp only [gT, if_pos hl] at e
        exact ⟨_, _, rfl, .inl (.inl (A.ih _ _ hs)), by rw [hr.length]; exact hl, h.run Γ Γ' σ m _ _ A hr e Q q⟩
      · simp only [gT, if_neg hl] at e
        cases e
    | _ => cases e⟩
end
/-! ### what is walked -/
def IsW (K : PySem.W.Frag) (I : Hp) (J : It) (xs : List D) : Prop := ∃ (Gc : Hp → Prop) (Y : Nat → Hp → V → Hp → Prop), Walk J xs.length Gc Y ∧ (∀ I1 H1, Ex I I1 → Ex I1 H1 → Gc H1) ∧
  ∀ i H x H' I1, i < xs.length → Y i H x H' → Ex I I1 → Ex I1 H → ∃ I2 d, Gr [] I1 H I2 H' ∧ xs[i]? = some d ∧ Rp K I2 x d
def rW (K : PySem.W.Frag) : Rel (List D) It := fun m _ j xs => IsW K m.I j xs
abbrev SI (K : PySem.W.Frag) (W : WX) (wi : TI) (s : Sg → Rs (List D)) : Prop := J K W (rW K) wi s
/-- what is forgotten: slots -/
def fgt : List Nat → List (Option U) → List (Option U)
  | [], sl => sl
  | i :: is, sl => (fgt is sl).set i none
theorem At.fgt {K : PySem.W.Frag} {σ : L2.St} {m : Wd} {Γ : Sg} (A : At K σ m Γ) : ∀ is, At K σ m ⟨fgt is Γ.sl, Γ.mm⟩
  | [] => A
  | i :: is => (A.fgt is).forget
def Sg.fg (Γ : Sg) (is : List Nat) : Sg := ⟨fgt is Γ.sl, Γ.mm⟩
/-! ### loops -/
def forL (fg : List Nat) (tg : U → Sg → Option Sg) (body : Sg → Rs Fl) : List D → Sg → Rs Fl
  | [], Γ => .ok .nx (Γ.fg fg)
  | x :: xs, Γ => match tg (.d x) (Γ.fg fg) with
    | none => .st
    | some Γ1 => match body Γ1 with
      | .ok .nx Γ2 => forL fg tg body xs Γ2
      | .ok .ct Γ2 => forL fg tg body xs Γ2
      | .ok .bk Γ2 => .ok .nx (Γ2.fg fg)
      | r => r
def sFor (fg : List Nat) (src : Sg → Rs (List D)) (tg : U → Sg → Option Sg) (body : Sg → Rs Fl) : Sg → Rs Fl := fun Γ => (src Γ).bind fun xs Γ1 => forL fg tg body xs Γ1
def whL (fg : List Nat) (t : Sg → Rs Bool) (body : Sg → Rs Fl) : Nat → Sg → Rs Fl
  | 0, _ => .st
  | n + 1, Γ => (t (Γ.fg fg)).bind fun b Γ1 => if b then (match body Γ1 with
      | .ok .nx Γ2 => whL fg t body n Γ2
      | .ok .ct Γ2 => whL fg t body n Γ2
      | .ok .bk Γ2 => .ok .nx (Γ2.fg fg)
      | r => r) else .ok .nx Γ1
def sWhile (fg : List Nat) (fuel : Nat) (t : Sg → Rs Bool) (body : Sg → Rs Fl) : Sg → Rs Fl := fun Γ => whL fg t body fuel Γ
section
variable {K : PySem.W.Frag} {W : WX}
theorem ss_for {fg : List Nat} {wi : TI} {g : TG} {tb : TS} {ws : List Nat} {src : Sg → Rs (List D)} {tg : U → Sg → Option Sg} {body : Sg → Rs Fl} (h1 : SI K W wi src) (h2 : Tg K g ws tg) (h3 : SS K W tb body) : SS K W (tFor wi g tb) (sFor fg src tg body) := fun Γ σ m De A p => by
  refine h1.stepS A p fun xs Γ1 m1 J n1 A1 hw p1 => ?_
  obtain ⟨Gc, Y, w, hg, hy⟩ := hw
  refine for_it (g := g) (tb := tb) (D := De) w (fun i σ H => ∃ m2 Γi, m2.H = H ∧ Nx m1 Γ1.mm m2 Γi.mm ∧ At K σ m2 Γi ∧ PostS K W m2 Γi.mm (forL fg tg body (xs.drop i) Γi) De)
    ⟨m1, Γ1, rfl, .refl, A1, p1⟩ (fun i σ H _ ⟨m2, Γi, e, nx, A, _⟩ => hg m2.I H nx.ex (e ▸ A.ih)) ?_ ?_
  · rintro i x σ H H' hi ⟨m2, Γi, rfl, nx2, A2, p2⟩ y
    obtain ⟨I3, d, g3, hd, rd⟩ := hy i m2.H x H' m2.I hi y nx2.ex A2.ih
    have e : xs.drop i = d :: xs.drop (i + 1) := by
      rw [List.drop_eq_getElem_cons hi]
      rw [List.getElem?_eq_getElem hi] at hd
      cases hd
      rfl
    rw [e, forL] at p2
    have A3 := (A2.g g3).fgt fg
    have nx3 : Nx m1 Γ1.mm ⟨I3, H', m2.as⟩ Γi.mm := nx2.trans (.g g3)
    have p3 := PostS.tr p2 (Nx.g g3)
    cases hg1 : tg (.d d) (Γi.fg fg) with
    | none => rw [hg1] at p3; exact p3.elim
    | some Γ4 =>
      rw [hg1] at p3
      dsimp only at p3
      refine h2.run (Γi.fg fg) Γ4 σ ⟨I3, H', m2.as⟩ _ x A3 (.d rd) hg1 _ fun σ' A4 hm _ _ => ?_
      have hm : Γ4.mm = Γi.mm := hm
      refine h3 Γ4 σ' ⟨I3, H', m2.as⟩ _ A4 ?_
      rw [← hm] at p3 nx3
      cases hb : body Γ4 with
      | st => rw [hb] at p3; exact p3
      | ex e Γ5 => rw [hb] at p3; exact p3
      | ok f Γ5 =>
        rw [hb] at p3
        cases f with
        | nx => exact fun σ' m' nx A' => ⟨m', Γ5, rfl, nx3.trans nx, A', PostS.tr p3 nx⟩
        | ct => exact fun σ' m' nx A' => ⟨m', Γ5, rfl, nx3.trans nx, A', PostS.tr p3 nx⟩
        | bk => exact fun σ' m' nx A' => p3 σ' m' nx (A'.fgt fg)
        | rt d => exact p3
        | rf j d => exact p3
  · rintro σ H ⟨m2, Γi, rfl, nx2, A2, p2⟩
    rw [List.drop_length] at p2
    exact p2 σ m2 .refl (A2.fgt fg)
theorem ss_while {fg : List Nat} {fuel : Nat} {tc : TT} {tb : TS} {t : Sg → Rs Bool} {body : Sg → Rs Fl} (h1 : ST K W tc t) (h3 : SS K W tb body) : SS K W (tWhile tc tb) (sWhile fg fuel t body) := fun Γ σ m De A p => by
  refine ⟨fun n σ H => ∃ m2 Γi, m2.H = H ∧ At K σ m2 Γi ∧ PostS K W m2 Γi.mm (whL fg t body n Γi) De, ⟨fuel, m, Γ, rfl, A, p⟩, ?_⟩
  rintro n σ H ⟨m2, Γi, rfl, A2, p2⟩
  cases n with
  | zero => exact p2.elim
  | succ n =>
    rw [whL] at p2
    refine h1.stepS (Γ := Γi.fg fg) (A2.fgt fg) p2 fun b Γ3 m3 v n3 A3 r3 p3 => ?_
    obtain rfl : v = b := r3
    cases v with
    | false => exact p3 σ m3 .refl A3
    | true =>
      rw [if_pos rfl]
      rw [if_pos rfl] at p3
      refine ⟨fun σ' H' => ∃ m2 Γi, m2.H = H' ∧ At K σ' m2 Γi ∧ PostS K W m2 Γi.mm (whL fg t body n Γi) De, fun σ' H' h => ⟨n, Nat.lt_succ_self n, h⟩, ?_⟩
      refine h3 Γ3 σ m3 _ A3 ?_
      cases hb : body Γ3 with
      | st => rw [hb] at p3; exact p3
      | ex e Γ5 => rw [hb] at p3; exact p3
      | ok f Γ5 =>
        rw [hb] at p3
        cases f with
        | nx => exact fun σ' m' nx A' => ⟨m', Γ5, rfl, A', PostS.tr p3 nx⟩
        | ct => exact fun σ' m' nx A' => ⟨m', Γ5, rfl, A', PostS.tr p3 nx⟩
        | bk => exact fun σ' m' nx A' => p3 σ' m' nx (A'.fgt fg)
        | rt d => exact p3
        | rf j d => exact p3
/-! ### simple statements -/
def sNx : Sg → Rs Fl := fun Γ => .ok .nx Γ
def sBk : Sg → Rs Fl := fun Γ => .ok .bk Γ
def sCt : Sg → Rs Fl := fun Γ => .ok .ct Γ
def sSeq (a b : Sg → Rs Fl) : Sg → Rs Fl := fun Γ => match a Γ with
  | .ok .nx Γ1 => b Γ1
  | r => r
def sIf (t : Sg → Rs Bool) (a b : Sg → Rs Fl) : Sg → Rs Fl := fun Γ => (t Γ).bind fun x Γ1 => if x then a Γ1 else b Γ1
def sAsg (e : Sg → Rs U) (tg : U → Sg → Option Sg) : Sg → Rs Fl := fun Γ => (e Γ).bind fun u Γ1 => match tg u Γ1 with
  | some Γ2 => .ok .nx Γ2
  | none => .st
def sDrop (e : Sg → Rs U) : Sg → Rs Fl := fun Γ => (e Γ).bind fun _ Γ1 => .ok .nx Γ1
def sRet (e : Sg → Rs U) : Sg → Rs Fl := fun Γ => (e Γ).bind fun u Γ1 => match pu u with
  | some d => .ok (.rt d) Γ1
  | none => .st
def sRetN : Sg → Rs Fl := fun Γ => .ok (.rt .non) Γ
variable {te : TE} {e : Sg → Rs U} {tt : TT} {t : Sg → Rs Bool} {ta tb : TS} {a b : Sg → Rs Fl}
theorem ss_nx : SS K W tNext sNx := fun Γ σ m De A p => p σ m .refl A
theorem ss_bk : SS K W tBreak sBk := fun Γ σ m De A p => p σ m .refl A
theorem ss_ct : SS K W tCont sCt := fun Γ σ m De A p => p σ m .refl A
theorem ss_seq (h1 : SS K W ta a) (h2 : SS K W tb b) : SS K W (tSeq ta tb) (sSeq a b) := fun Γ σ m De A p => by
  refine h1 Γ σ m _ A ?_
  unfold sSeq at p
  cases ha : a Γ with
  | st => rw [ha] at p; exact p
  | ex x Γ1 => rw [ha] at p; exact p
  | ok f Γ1 =>
    rw [ha] at p
    cases f with
    | nx => exact fun σ' m' nx A' => h2 Γ1 σ' m' De A' (PostS.tr p nx)
    | bk => exact p
    | ct => exact p
    | rt d => exact p
    | rf j d => exact p
theorem ss_if (h0 : ST K W tt t) (h1 : SS K W ta a) (h2 : SS K W tb b) : SS K W (tIfS tt ta tb) (sIf t a b) := fun Γ σ m De A p => by
  refine h0.stepS A p fun x Γ1 m1 v n1 A1 r1 p1 => ?_
  obtain rfl : v = x := r1
  cases v with
  | true => exact h1 Γ1 σ m1 De A1 p1
  | false => exact h2 Γ1 σ m1 De A1 p1
theorem ss_asg {g : TG} {ws : List Nat} {tg : U → Sg → Option Sg} (h1 : SE K W te e) (h2 : Tg K g ws tg) : SS K W (tAsg te g) (sAsg e tg) := fun Γ σ m De A p => by
  refine h1.stepS A p fun u Γ1 m1 v n1 A1 r1 p1 => ?_
  cases hg : tg u Γ1 with
  | none => rw [hg] at p1; exact p1.elim
  | some Γ2 =>
    rw [hg] at p1
    exact h2.run Γ1 Γ2 σ m1 u v A1 r1 hg _ fun σ' A2 hm _ _ => p1 σ' m1 (by rw [hm]; exact .refl) A2
theorem ss_drop (h1 : SE K W te e) : SS K W (tDrop te) (sDrop e) := fun Γ σ m De A p => by
  exact h1.stepS A p fun u Γ1 m1 v n1 A1 r1 p1 => p1 σ m1 .refl A1
theorem ss_ret (h1 : SE K W te e) : SS K W (tRet te) (sRet e) := fun Γ σ m De A p => by
  refine h1.stepS A p fun u Γ1 m1 v n1 A1 r1 p1 => ?_
  cases hu : pu u with
  | none => rw [hu] at p1; exact p1.elim
  | some d => rw [hu] at p1; exact p1 σ m1 v .refl A1 (RU.pu r1 hu)
theorem ss_retN : SS K W tRetN sRetN := fun Γ σ m De A p => p σ m .non .refl A .non
def sFgt (is : List Nat) (a : Sg → Rs Fl) : Sg → Rs Fl := fun Γ => a ⟨fgt is Γ.sl, Γ.mm⟩
theorem ss_fgt {is : List Nat} (h : SS K W ta a) : SS K W ta (sFgt is a) := fun Γ σ m De A p => h _ σ m De (A.fgt is) p
/-! ### freezing: a cell changes no more, it becomes data, wherever it is named -/
def fzU (j : Nat) (d : D) : U → U
  | .lc k => if k = j then .d d else .lc k
  | .d x => .d x
def fzC (j : Nat) (d : D) : Cell → Cell
  | .n us => .n (us.map (fzU j d))
  | .p x => .p x
  | .gone => .gone
def fz (j : Nat) (d : D) (Γ : Sg) : Sg := ⟨Γ.sl.map fun o => o.map (fzU j d), (Γ.mm.map (fzC j d)).set j .gone⟩
theorem RU.fz {n : Nat} {I I' : Hp} {as : Nat → Addr} {j : Nat} {d : D} (e : Ex I I') (r : Rp K I' (.ref (as j)) d) {v : V} {u : U} (h : RU K I as n v u) : RU K I' as n v (fzU j d u) := by
  cases h with
  | d h => exact .d (h.mono e)
  | @lc k hk =>
    unfold fzU
    dsimp only
    by_cases z : k = j
    · subst z; rw [if_pos rfl]; exact .d r
    · rw [if_neg z]; exact .lc hk
theorem RUs.fz {n : Nat} {I I' : Hp} {as : Nat → Addr} {j : Nat} {d : D} (e : Ex I I') (r : Rp K I' (.ref (as j)) d) : ∀ {vs : List V} {us : List U}, RUs K I as n vs us → RUs K I' as n vs (us.map (fzU j d))
  | _, _, .nil => .nil
  | _, _, .cons h t => .cons (h.fz e r) (RUs.fz e r t)
theorem fz_at {j k : Nat} {d : D} {mm : List Cell} {x : Cell} (h : ((mm.map (fzC j d)).set j .gone)[k]? = some x) (hx : x ≠ .gone) : k ≠ j ∧ ∃ y, mm[k]? = some y ∧ x = fzC j d y := by
  by_cases z : k = j
  · subst z
    have hl := (List.getElem?_eq_some_iff.mp h).1
    rw [List.length_set] at hl
    rw [List.getElem?_set_self hl] at h
    cases h
    exact absurd rfl hx
  · rw [List.getElem?_set_ne (Ne.symm z), List.getElem?_map] at h
    cases q : mm[k]? with
    | none => rw [q] at h; cases h
    | some y => rw [q] at h; cases h; exact ⟨z, y, rfl, rfl⟩
theorem fzC_gone {j : Nat} {d : D} {x : Cell} (h : fzC j d x ≠ .gone) : x ≠ .gone := fun z => h (by rw [z]; rfl)
theorem gone_fzC {j : Nat} {d : D} {x : Cell} (h : x ≠ .gone) : fzC j d x ≠ .gone := by
  cases x with
  | p _ => exact nofun
  | n _ => exact nofun
  | gone => exact absurd rfl h
theorem live_fz {j k : Nat} {d : D} {mm : List Cell} (h : live ((mm.map (fzC j d)).set j .gone) k) : k ≠ j ∧ live mm k := by
  obtain ⟨x, hx, hq⟩ := h
  obtain ⟨h1, y, h2, rfl⟩ := fz_at hx hq
  exact ⟨h1, y, h2, fzC_gone hq⟩
theorem At.fz {K : PySem.W.Frag} {σ : L2.St} {m : Wd} {Γ : Sg} (A : At K σ m Γ) {j : Nat} {d : D} (q : Γ.mm[j]? = some (.p d)) :
    ∃ I', At K σ ⟨I', m.H, m.as⟩ (fz j d Γ) ∧ Rp K I' (.ref (m.as j)) d ∧ Nx m Γ.mm ⟨I', m.H, m.as⟩ (fz j d Γ).mm := by
  obtain ⟨n0, o, ho, r⟩ := A.mm j _ q
  have lv : live Γ.mm j := ⟨_, q, nofun⟩
  have ei : Ex m.I (upd m.I (m.as j) o) := Ex.new n0
  have rd : Rp K (upd m.I (m.as j) o) (.ref (m.as j)) d := (r.mono ei).rp upd_same
  have hlen : (S.fz j d Γ).mm.length = Γ.mm.length := by simp [S.fz]
  refine ⟨upd m.I (m.as j) o, ⟨fun a u h => ?_, fun i u h => ?_, fun k x h => ?_, fun k l hk hl ne => ?_, by simp [S.fz, A.len]⟩, rd, ⟨ei, fun a u h _ => h, fun a h n => ?_, fun _ h => h, fun _ _ => rfl, by rw [hlen]; exact Nat.le_refl _, fun k h => .inl (live_fz h).2⟩⟩
  · show m.H a = some u
    by_cases z : a = m.as j
    · subst z
      have h : upd m.I (m.as j) o (m.as j) = some u := h
      rw [upd_same] at h
      rw [← h]; exact ho
    · have h : upd m.I (m.as j) o a = some u := h
      rw [upd_ne z] at h; exact A.ih a u h
  · rw [hlen]
    unfold S.fz at h
    dsimp only at h
    rw [List.getElem?_map] at h
    cases z : Γ.sl[i]? with
    | none => rw [z] at h; cases h
    | some w =>
      rw [z] at h
      cases w with
      | none => cases h
      | some w =>
        cases h
        obtain ⟨v, h1, h2⟩ := A.sl i w z
        exact ⟨v, h1, h2.fz ei rd⟩
  · rw [hlen]
    by_cases hx : x = .gone
    · subst hx; trivial
    · obtain ⟨h1, y, h2, rfl⟩ := fz_at h hx
      have hne : m.as k ≠ m.as j := A.ne k j ⟨y, h2, fzC_gone hx⟩ lv h1
      have ok := A.mm k y h2
      cases y with
      | p e =>
        obtain ⟨a1, o1, a2, a3⟩ := ok
        refine ⟨?_, o1, a2, a3.mono ei⟩
        show upd m.I (m.as j) o (m.as k) = none
        rw [upd_ne hne]; exact a1
      | n us =>
        obtain ⟨a1, vs, a2, a3⟩ := ok
        refine ⟨?_, vs, a2, a3.fz ei rd⟩
        show upd m.I (m.as j) o (m.as k) = none
        rw [upd_ne hne]; exact a1
      | gone => exact absurd rfl hx
  · exact A.ne k l (live_fz hk).2 (live_fz hl).2 ne
  · show upd m.I (m.as j) o a = m.I a
    rw [upd_ne (Ne.symm (n j lv))]
/-- e, frozen -/
def sFz (e : Sg → Rs U) : Sg → Rs U := fun Γ => (e Γ).bind fun u Γ1 => match u with
  | .d d => .ok (.d d) Γ1
  | .lc j => match Γ1.mm[j]? with
    | some (.p d) => .ok (.d d) (fz j d Γ1)
    | _ => .st
theorem se_fz (h : SE K W te e) : SE K W te (sFz e) := fun Γ σ m A Q p => by
  refine h.step A p fun u Γ1 m1 v n1 A1 r1 p1 => ?_
  cases r1 with
  | d r => exact p1 m1 v .refl A1 (.d r)
  | @lc j hj =>
    dsimp only at p1
    cases q : Γ1.mm[j]? with
    | none => rw [q] at p1; exact p1.elim
    | some x =>
      rw [q] at p1
      cases x with
      | p d =>
        obtain ⟨I2, A2, r2, n2⟩ := A1.fz q
        exact p1 ⟨I2, m1.H, m1.as⟩ _ n2 A2 (.d r2)
      | n us => exact p1.elim
      | gone => exact p1.elim
/-- what is returned as it lies, new: the asker may change it -/
def sRetF (e : Sg → Rs U) : Sg → Rs Fl := fun Γ => (e Γ).bind fun u Γ1 => match u with
  | .lc j => (match Γ1.mm[j]? with
    | some (.p d) => .ok (.rf j d) Γ1
    | _ => .st)
  | _ => .st
theorem ss_retF (h : SE K W te e) : SS K W (tRet te) (sRetF e) := fun Γ σ m De A p => by
  refine h.stepS A p fun u Γ1 m1 v n1 A1 r1 p1 => ?_
  cases r1 with
  | d r => exact p1.elim
  | @lc j hj =>
    dsimp only at p1
    cases q : Γ1.mm[j]? with
    | none => rw [q] at p1; exact p1.elim
    | some x =>
      rw [q] at p1
      cases x with
      | p d =>
        obtain ⟨n0, o, ho, r⟩ := A1.mm j _ q
        exact p1 σ m1 o .refl A1 q n0 ho r
      | n us => exact p1.elim
      | gone => exact p1.elim
/-! ### comprehensions -/
def wipeS (sl : List (Option U)) : List Nat → List (Option U)
  | [] => sl
  | v :: vs => (wipeS sl vs).set v none
def lcL (sl : List (Option U)) (vs : List Nat) (tg : U → Sg → Option Sg) (tt : Sg → Rs Bool) (te : Sg → Rs U) : List D → Sg → List D → Rs (List D)
  | [], Γ, acc => .ok acc Γ
  | x :: xs, Γ, acc => match tg (.d x) ⟨wipeS sl vs, Γ.mm⟩ with
    | none => .st
    | some Γ1 => match tt Γ1 with
      | .ok false Γ2 => lcL sl vs tg tt te xs ⟨sl, Γ2.mm⟩ acc
      | .ok true Γ2 => (match te Γ2 with
        | .ok (.d d) Γ3 => lcL sl vs tg tt te xs ⟨sl, Γ3.mm⟩ (acc ++ [d])
        | _ => .st)
      | _ => .st
def sLc (src : Sg → Rs (List D)) (tg : U → Sg → Option Sg) (tt : Sg → Rs Bool) (te : Sg → Rs U) (vs : List Nat) : Sg → Rs U := fun Γ => (src Γ).bind fun xs Γ1 => if xs.length ≤ 10000000 then (match lcL Γ1.sl vs tg tt te xs Γ1 [] with
    | .ok ds Γ2 => .ok (.d (.lst ds)) Γ2
    | _ => .st) else .st
def sLcA (src : Sg → Rs (List D)) (tg : U → Sg → Option Sg) (tt : Sg → Rs Bool) (te : Sg → Rs U) (vs : List Nat) : Sg → Rs U := fun Γ => (src Γ).bind fun xs Γ1 => if xs.length ≤ 10000000 then (match lcL Γ1.sl vs tg tt te xs Γ1 [] with
    | .ok ds Γ2 => .ok (.lc Γ2.mm.length) ⟨Γ2.sl, Γ2.mm ++ [.p (.lst ds)]⟩
    | _ => .st) else .st
theorem wipeS_len {sl : List (Option U)} : ∀ {vs : List Nat}, (wipeS sl vs).length = sl.length
  | [] => rfl
  | v :: vs => by unfold wipeS; rw [List.length_set, wipeS_len]
theorem wipeS_get {sl : List (Option U)} {i : Nat} {u : U} : ∀ {vs : List Nat}, (wipeS sl vs)[i]? = some (some u) → sl[i]? = some (some u) ∧ i ∉ vs
  | [], h => ⟨h, by simp⟩
  | v :: vs, h => by
    unfold wipeS at h
    rcases set_get h with ⟨_, z, _⟩ | ⟨ne, z⟩
    · cases z
    · obtain ⟨a, b⟩ := wipeS_get z
      exact ⟨a, by simp [ne, b]⟩
theorem At.wipe {K : PySem.W.Frag} {σ : L2.St} {m : Wd} {Γ : Sg} (A : At K σ m Γ) (vs : List Nat) : At K (wipe σ vs) m ⟨wipeS Γ.sl vs, Γ.mm⟩ :=
  A.sls (fun i u h => by
    obtain ⟨h1, h2⟩ := wipeS_get h
    obtain ⟨v, e, r⟩ := A.sl i u h1
    exact ⟨v, by rw [G.wipe_get h2]; exact e, r⟩) (by rw [wipe_length, wipeS_len, A.len])
/-- the slots as they were, the cells as they are -/
theorem At.back {K : PySem.W.Frag} {σ σ' : L2.St} {m m' : Wd} {Γ Γ' : Sg} (A : At K σ m Γ) (B : At K σ' m' Γ') (x : Nx m Γ.mm m' Γ'.mm) : At K σ m' ⟨Γ.sl, Γ'.mm⟩ :=
  B.sls (fun i u h => by
    obtain ⟨v, e, r⟩ := A.sl i u h
    exact ⟨v, e, r.mono x⟩) A.len
theorem lc_go {wi : TI} {g : TG} {tt : TT} {te : TE} {vs ws : List Nat} {tg : U → Sg → Option Sg} {t : Sg → Rs Bool} {e : Sg → Rs U} {K : PySem.W.Frag} {Γ Γ2 : Sg} {σ : L2.St} {m1 : Wd} {J : It} {xs ds : List D} {Q : VK}
    (h2 : Tg K g ws tg) (hws : ∀ j ∈ ws, j ∈ vs) (h3 : ST K (fun _ _ _ _ => False) tt t) (h4 : SE K (fun _ _ _ _ => False) te e) (A1 : At K σ m1 Γ) (hw : IsW K m1.I J xs) (hl : xs.length ≤ 10000000) (hr : lcL Γ.sl vs tg t e xs Γ [] = .ok ds Γ2)
    (q : ∀ m' Dd vs', Nx m1 Γ.mm m' Γ2.mm → At K σ m' Γ2 → m'.I Dd = none → m1.H Dd = none → (∀ j, live Γ2.mm j → m'.as j ≠ Dd) → m'.H Dd = some (.lst vs') → Rps K m'.I vs' ds → Q (.ref Dd) m'.H) :
    ∀ Dd, m1.H Dd = none → ∃ W : Nat → Nat → Hp → Prop, (∃ n, W 0 n (upd m1.H Dd (.lst []))) ∧ ∀ i n H, W i n H →
      (J.stop i H ∧ Q (.ref Dd) H) ∨ (J.go i H ∧ ∃ Nx : Hp → Prop, (∀ H', Nx H' → ∃ n', n' < n ∧ W (i + 1) n' H') ∧ ∀ x H', J.yld i H x H' → g x (wipe σ vs) H' fun σ2 H2 => wipe σ2 vs = wipe σ vs ∧ tt σ2 H2 fun b H3 =>
        if b = true then te σ2 H3 fun y H4 => ∃ acc, H4 Dd = some (.lst acc) ∧ acc.length < sizeLine ∧ Nx (upd H4 Dd (.lst (acc ++ [y]))) else Nx H3) := fun Dd hD => by
  obtain ⟨Gc, Y, w, hg, hy⟩ := hw
  have gj := Gr.junk (m := []) (o := HO.lst []) A1.ih hD
  refine lc_it (Qd := fun H => Q (.ref Dd) H) w (fun i H => ∃ m2 Γi acc va, m2.H = H ∧ Nx m1 Γ.mm m2 Γi.mm ∧ At K σ m2 Γi ∧ Γi.sl = Γ.sl ∧ m2.I Dd = none ∧ (∀ j, live Γi.mm j → m2.as j ≠ Dd) ∧ m2.H Dd = some (.lst va) ∧ Rps K m2.I va acc ∧ acc.length ≤ i ∧ lcL Γ.sl vs tg t e (xs.drop i) Γi acc = .ok ds Γ2)
    ⟨⟨m1.I, upd m1.H Dd (.lst []), m1.as⟩, Γ, [], [], rfl, .g gj, A1.g gj, rfl, A1.ih.free hD, A1.fresh hD, upd_same, .nil, Nat.le_refl _, hr⟩ (fun i H _ ⟨m2, Γi, _, _, e, nx, A, _⟩ => hg m2.I H nx.ex (e ▸ A.ih)) ?_ ?_
  · rintro i x H H' hi ⟨m2, Γi, acc, va, rfl, nx2, A2, es, n2, fr2, a2, r2, la, p2⟩ y
    obtain ⟨I3, d, g3, hd, rd⟩ := hy i m2.H x H' m2.I hi y nx2.ex A2.ih
    have ed : xs.drop i = d :: xs.drop (i + 1) := by
      rw [List.drop_eq_getElem_cons hi]
      rw [List.getElem?_eq_getElem hi] at hd
      cases hd
      rfl
    rw [ed, lcL] at p2
    have A3 := A2.g g3
    have nx3 : Nx m1 Γ.mm ⟨I3, H', m2.as⟩ Γi.mm := nx2.trans (.g g3)
    have n3 : I3 Dd = none := g3.none_i n2 (by rw [a2]; exact nofun)
    have a3 := g3.ex _ _ a2
    have Aw := A3.wipe vs
    rw [es] at Aw
    cases hg1 : tg (.d d) ⟨wipeS Γ.sl vs, Γi.mm⟩ with
    | none => rw [hg1] at p2; cases p2
    | some Γ4 =>
      rw [hg1] at p2
      dsimp only at p2
      refine h2.run ⟨wipeS Γ.sl vs, Γi.mm⟩ Γ4 (wipe σ vs) ⟨I3, H', m2.as⟩ _ x Aw (.d rd) hg1 _ fun σ' A4 hm k' n' => ⟨G.wipe_eq k' n' hws, ?_⟩
      have hm : Γ4.mm = Γi.mm := hm
      rw [← hm] at nx3 fr2
      -- the list that grows is no cell: it stays
      have stay : ∀ (m' : Wd) (mm' : List Cell), Nx ⟨I3, H', m2.as⟩ Γ4.mm m' mm' → m'.H Dd = some (.lst va) ∧ m'.I Dd = none ∧ ∀ j, live mm' j → m'.as j ≠ Dd := fun m' mm' nx =>
        ⟨nx.kp Dd _ a3 fr2, (nx.fr Dd (by show H' Dd ≠ none; rw [a3]; exact nofun) fr2).trans n3, nx.apart (by show H' Dd ≠ none; rw [a3]; exact nofun) fr2⟩
      cases ht : t Γ4 with
      | st => rw [ht] at p2; cases p2
      | ex _ _ => rw [ht] at p2; cases p2
      | ok b Γ5 =>
        rw [ht] at p2
        refine h3 Γ4 σ' ⟨I3, H', m2.as⟩ A4 _ ?_
        rw [ht]
        intro m5 b' nx5 A5 hb
        obtain rfl : b' = b := hb
        have A3' : At K σ ⟨I3, H', m2.as⟩ ⟨Γi.sl, Γ4.mm⟩ := by rw [hm]; exact A3
        cases b' with
        | false =>
          rw [if_neg Bool.false_ne_true]
          obtain ⟨s1, s2, s3⟩ := stay m5 Γ5.mm nx5
          have B := A3'.back A5 nx5
          rw [es] at B
          exact ⟨m5, ⟨Γ.sl, Γ5.mm⟩, acc, va, rfl, nx3.trans nx5, B, rfl, s2, s3, s1, r2.mono (g3.i.trans nx5.ex), Nat.le_succ_of_le la, p2⟩
        | true =>
          rw [if_pos rfl]
          dsimp only at p2
          cases he : e Γ5 with
          | st => rw [he] at p2; cases p2
          | ex _ _ => rw [he] at p2; cases p2
          | ok u Γ6 =>
            rw [he] at p2
            refine h4 Γ5 σ' m5 A5 _ ?_
            rw [he]
            intro m6 v6 nx6 A6 r6
            cases r6 with
            | lc _ => cases p2
            | @d _ dd r6 =>
              dsimp only at p2
              have nx56 := nx5.trans nx6
              obtain ⟨s1, s2, s3⟩ := stay m6 Γ6.mm nx56
              have B := A3'.back A6 nx56
              rw [es] at B
              have r7 : Rps K m6.I (va ++ [v6]) (acc ++ [dd]) := (r2.mono (g3.i.trans nx56.ex)).append (.one r6)
              refine ⟨va, s1, by rw [r2.length, sizeLine_eq]; omega, ?_⟩
              -- the list at Dd changes
              have B' : At K σ ⟨m6.I, upd m6.H Dd (.lst (va ++ [v6])), m6.as⟩ ⟨Γ.sl, Γ6.mm⟩ := by
                refine ⟨fun a u q => ?_, B.sl, fun j c hc => ?_, B.ne, B.len⟩
                · have z : a ≠ Dd := fun z => by rw [z, s2] at q; cases q
                  show upd m6.H Dd _ a = some u
                  rw [upd_ne z]; exact B.ih a u q
                · have q := B.mm j c hc
                  by_cases hq : c = .gone
                  · subst hq; trivial
                  · have ne := s3 j ⟨c, hc, hq⟩
                    cases c with
                    | p d => obtain ⟨a1, o1, b1, c1⟩ := q; exact ⟨a1, o1, by show upd m6.H Dd _ _ = _; rw [upd_ne ne]; exact b1, c1⟩
                    | n us => obtain ⟨a1, o1, b1, c1⟩ := q; exact ⟨a1, o1, by show upd m6.H Dd _ _ = _; rw [upd_ne ne]; exact b1, c1⟩
                    | gone => trivial
              have nx7 : Nx m1 Γ.mm ⟨m6.I, upd m6.H Dd (.lst (va ++ [v6])), m6.as⟩ Γ6.mm := by
                have n := nx3.trans nx56
                refine ⟨n.ex, fun a o h hn => ?_, n.fr, fun a h => ?_, n.as, n.le, n.nw⟩
                · show upd m6.H Dd _ a = some o
                  rw [upd_ne (ne_of_none h hD)]; exact n.kp a o h hn
                · show upd m6.H Dd _ a ≠ none
                  by_cases z : a = Dd
                  · rw [z, upd_same]; exact nofun
                  · rw [upd_ne z]; exact n.th a h
              exact ⟨_, ⟨Γ.sl, Γ6.mm⟩, acc ++ [dd], va ++ [v6], rfl, nx7, B', rfl, s2, s3, upd_same, r7, by rw [List.length_append]; exact Nat.succ_le_succ la, p2⟩
  · rintro H ⟨m2, Γi, acc, va, rfl, nx2, A2, es, n2, fr2, a2, r2, la, p2⟩
    rw [List.drop_length, lcL] at p2
    cases p2
    exact q m2 Dd va nx2 A2 n2 hD fr2 a2 r2
theorem se_lc {wi : TI} {g : TG} {tt : TT} {te : TE} {vs ws : List Nat} {src : Sg → Rs (List D)} {tg : U → Sg → Option Sg} {t : Sg → Rs Bool} {e : Sg → Rs U} (h1 : SI K W wi src) (h2 : Tg K g ws tg) (h3 : ST K (fun _ _ _ _ => False) tt t) (h4 : SE K (fun _ _ _ _ => False) te e) (hws : ∀ j ∈ ws, j ∈ vs := by decide) : SE K W (tLc wi g tt te vs) (sLc src tg t e vs) := fun Γ σ m A Q p => by
  refine h1.step A p fun xs Γ1 m1 J n1 A1 hw p1 => ?_
  split at p1
  · rename_i hl
    cases hr : lcL Γ1.sl vs tg t e xs Γ1 [] with
    | st => rw [hr] at p1; exact p1.elim
    | ex _ _ => rw [hr] at p1; exact p1.elim
    | ok ds Γ2 =>
      rw [hr] at p1
      refine lc_go (wi := wi) h2 hws h3 h4 A1 hw hl hr fun m' Dd vs' nx B n0 n1 fr hd r => ?_
      have e1 : Ex m'.I (upd m'.I Dd (.lst vs')) := Ex.new n0
      refine p1 ⟨upd m'.I Dd (.lst vs'), m'.H, m'.as⟩ (.ref Dd) ⟨nx.ex.trans e1, nx.kp, fun a h n => ?_, nx.th, nx.as, nx.le, nx.nw⟩ ⟨fun a u h => ?_, fun i u h => ?_, fun j c hc => ?_, B.ne, B.len⟩ (.d (.lst upd_same (r.mono e1)))
      · show upd m'.I Dd _ a = m1.I a
        rw [upd_ne (fun z => h (by rw [z]; exact n1))]; exact nx.fr a h n
      · by_cases z : a = Dd
        · subst z
          have h : upd m'.I a (.lst vs') a = some u := h
          rw [upd_same] at h
          rw [← h]; exact hd
        · have h : upd m'.I Dd (.lst vs') a = some u := h
          rw [upd_ne z] at h; exact B.ih a u h
      · obtain ⟨v, q1, q2⟩ := B.sl i u h
        exact ⟨v, q1, q2.up e1 (fun _ _ => rfl) (Nat.le_refl _)⟩
      · have q := B.mm j c hc
        by_cases hq : c = .gone
        · subst hq; trivial
        · have ne := fr j ⟨c, hc, hq⟩
          cases c with
          | p d => obtain ⟨a1, o1, b1, c1⟩ := q; exact ⟨by show upd m'.I Dd _ _ = _; rw [upd_ne ne]; exact a1, o1, b1, c1.mono e1⟩
          | n us => obtain ⟨a1, o1, b1, c1⟩ := q; exact ⟨by show upd m'.I Dd _ _ = _; rw [upd_ne ne]; exact a1, o1, b1, c1.up e1 (fun _ _ => rfl) (Nat.le_refl _)⟩
          | gone => trivial
  · exact p1.elim
theorem se_lcA {wi : TI} {g : TG} {tt : TT} {te : TE} {vs ws : List Nat} {src : Sg → Rs (List D)} {tg : U → Sg → Option Sg} {t : Sg → Rs Bool} {e : Sg → Rs U} (h1 : SI K W wi src) (h2 : Tg K g ws tg) (h3 : ST K (fun _ _ _ _ => False) tt t) (h4 : SE K (fun _ _ _ _ => False) te e) (hws : ∀ j ∈ ws, j ∈ vs := by decide) : SE K W (tLc wi g tt te vs) (sLcA src tg t e vs) := fun Γ σ m A Q p => by
  refine h1.step A p fun xs Γ1 m1 J n1 A1 hw p1 => ?_
  split at p1
  · rename_i hl
    cases hr : lcL Γ1.sl vs tg t e xs Γ1 [] with
    | st => rw [hr] at p1; exact p1.elim
    | ex _ _ => rw [hr] at p1; exact p1.elim
    | ok ds Γ2 =>
      rw [hr] at p1
      refine lc_go (wi := wi) h2 hws h3 h4 A1 hw hl hr fun m' Dd vs' nx B n0 n1 fr hd r => ?_
      have C := B.push (x := .p (.lst ds)) ⟨n0, _, hd, .lst r⟩ nofun fr
      have := p1 ⟨m'.I, m'.H, updA m'.as Γ2.mm.length Dd⟩ (.ref (updA m'.as Γ2.mm.length Dd Γ2.mm.length)) ⟨nx.ex, nx.kp, nx.fr, nx.th, fun j h => (updA_ne (Nat.ne_of_lt (Nat.lt_of_lt_of_le h nx.le))).trans (nx.as j h), by
        rw [List.length_append]; exact Nat.le_trans nx.le (Nat.le_add_right _ _), fun j h => ?_⟩ C (.lc (by rw [List.length_append]; exact Nat.lt_succ_self _))
      · rw [updA_same] at this
        exact this
      · show live Γ1.mm j ∨ m1.H (updA m'.as Γ2.mm.length Dd j) = none
        rcases push_live h with ⟨h1, h2⟩ | rfl
        · rw [updA_ne (Nat.ne_of_lt h1)]; exact nx.nw j h2
        · rw [updA_same]; exact .inr n1
  · exact p1.elim
end
end S

namespace S
open PySem PySem.Spec L2
open G (Ex Gr ex_l ex_t ExnAt exx exx_ok uAdd uMul uEq uNe uIn uNi uSl uLen uLt uLe uGt uGe rJoin rLo rTo rLn rLnD)
/-! ### data for == -/
mutual
def toP : D → PyData
  | .non => .none
  | .bl b => .bool b
  | .int i => .int i
  | .str s => .str s
  | .lst ds => .list (toPs ds)
  | .fl ds => .list (toPs ds)
  | .tup ds => .tuple (toPs ds)
  | .kt ds => .tuple (toPs ds)
  | _ => .none
def toPs : List D → List PyData
  | [] => []
  | d :: ds => toP d :: toPs ds
end
def okS (x : Str) : Bool := PyData.strOk x
mutual
def okD : D → Bool
  | .non => true
  | .bl _ => true
  | .int _ => true
  | .str s => okS s
  | .lst ds => okDs ds
  | .fl ds => okDs ds
  | .tup ds => okDs ds
  | .kt ds => okDs ds
  | _ => false
def okDs : List D → Bool
  | [] => true
  | d :: ds => okD d && okDs ds
end
mutual
def depD : D → Nat
  | .lst ds => depDs ds + 1
  | .fl ds => depDs ds + 1
  | .tup ds => depDs ds + 1
  | .kt ds => depDs ds + 1
  | _ => 0
def depDs : List D → Nat
  | [] => 0
  | d :: ds => max (depD d) (depDs ds)
end
mutual
theorem dp_of {K : PySem.W.Frag} {I : Hp} : ∀ {v : V} {d : D}, Rp K I v d → okD d = true → Dp K I v (toP d)
  | _, _, .non, _ => by rw [toP]; exact .non
  | _, _, .bl b, _ => by rw [toP]; exact .bl b
  | _, _, .int i, _ => by rw [toP]; exact .int i
  | _, _, .str x, _ => by rw [toP]; exact .str x
  | _, _, .lst h r, p => by rw [toP]; exact .lst (.inl (.inl h)) (dps_of r (by simpa [okD] using p))
  | _, _, .fl h r, p => by rw [toP]; exact .lst h (dps_of r (by simpa [okD] using p))
  | _, _, .tup h r, p => by rw [toP]; exact .tup (.inl (.inl h)) (dps_of r (by simpa [okD] using p))
  | _, _, .kt h r, p => by rw [toP]; exact .tup h (dps_of r (by simpa [okD] using p))
  | _, _, .dic _ _ _, p => by simp [okD] at p
  | _, _, .dit _ _ _, p => by simp [okD] at p
  | _, _, .obj _ _ _ _, p => by simp [okD] at p
  | _, _, .exn _ _ _ _ _, p => by simp [okD] at p
  | _, _, .ty _, p => by simp [okD] at p
  | _, _, .cl _, p => by simp [okD] at p
theorem dps_of {K : PySem.W.Frag} {I : Hp} : ∀ {vs : List V} {ds : List D}, Rps K I vs ds → okDs ds = true → DpAll K I vs (toPs ds)
  | _, _, .nil, _ => by rw [toPs]; exact .nil
  | _, _, .cons h r, p => by
    rw [okDs, Bool.and_eq_true] at p
    rw [toPs]; exact .cons (dp_of h p.1) (dps_of r p.2)
end
theorem dpl {K : PySem.W.Frag} {I H : Hp} {v : V} {d : D} (e : Ex I H) (r : RpL K I H v d) (p : okD d = true) : Dp K H v (toP d) := by
  cases r with
  | p r => exact G.Dp.mono' e (dp_of r p)
  | m h r =>
    cases r with
    | lst r => rw [toP]; exact .lst (.inl (.inl h)) (G.Dp.mono'.DpAll.mono'' e (dps_of r (by simpa [okD] using p)))
    | _ => simp [okD] at p
mutual
theorem okD_lay : ∀ d : D, okD d = true → (toP d).canLay0 = true ∧ (toP d).depth = depD d
  | .non, _ => by simp [toP, PyData.canLay0, PyData.depth, depD]
  | .bl _, _ => by simp [toP, PyData.canLay0, PyData.depth, depD]
  | .int _, _ => by simp [toP, PyData.canLay0, PyData.depth, depD]
  | .str s, h => by simp [toP, PyData.canLay0, PyData.depth, depD]; simpa [okD, okS] using h
  | .lst ds, h => by have := okDs_lay ds (by simpa [okD] using h); simp [toP, PyData.canLay0, PyData.depth, depD, this]
  | .fl ds, h => by have := okDs_lay ds (by simpa [okD] using h); simp [toP, PyData.canLay0, PyData.depth, depD, this]
  | .tup ds, h => by have := okDs_lay ds (by simpa [okD] using h); simp [toP, PyData.canLay0, PyData.depth, depD, this]
  | .kt ds, h => by have := okDs_lay ds (by simpa [okD] using h); simp [toP, PyData.canLay0, PyData.depth, depD, this]
  | .dic _ _, h => by simp [okD] at h
  | .dit _ _, h => by simp [okD] at h
  | .obj _ _ _, h => by simp [okD] at h
  | .exn _ _ _, h => by simp [okD] at h
  | .ty _, h => by simp [okD] at h
  | .cl _, h => by simp [okD] at h
theorem okDs_lay : ∀ ds : List D, okDs ds = true → PyData.canLayAll0 (toPs ds) = true ∧ PyData.depthAll (toPs ds) = depDs ds
  | [], _ => by simp [toPs, PyData.canLayAll0, PyData.depthAll, depDs]
  | d :: ds, h => by
    rw [okDs, Bool.and_eq_true] at h
    have h1 := okD_lay d h.1
    have h2 := okDs_lay ds h.2
    simp [toPs, PyData.canLayAll0, PyData.depthAll, depDs, h1, h2]
end
/-- data that == may be asked of -/
def eqOk (d : D) : Bool := okD d && decide (depD d ≤ 64)
theorem shaped_of {d : D} (h : eqOk d = true) : SeqAt.shaped (toP d) = true := by
  rw [eqOk, Bool.and_eq_true] at h
  have := okD_lay d h.1
  unfold SeqAt.shaped
  rw [this.1, this.2, h.2]; rfl
/-- Python's == -/
def eqv (x y : D) : Bool := PyData.eqv (toP x) (toP y)
def eqvs (x y : List D) : Bool := PyData.eqvAll (toPs x) (toPs y)
@[simp] theorem eqvs_nil : eqvs [] [] = true := by simp [eqvs, toPs, PyData.eqvAll]
@[simp] theorem eqvs_cons (x y : D) (xs ys : List D) : eqvs (x :: xs) (y :: ys) = (eqv x y && eqvs xs ys) := by simp [eqvs, eqv, toPs, PyData.eqvAll]
@[simp] theorem eqvs_nc (y : D) (ys : List D) : eqvs [] (y :: ys) = false := by simp [eqvs, toPs, PyData.eqvAll]
@[simp] theorem eqvs_cn (y : D) (ys : List D) : eqvs (y :: ys) [] = false := by simp [eqvs, toPs, PyData.eqvAll]
@[simp] theorem eqv_int (i j : Int) : eqv (.int i) (.int j) = decide (i = j) := by simp [eqv, toP, PyData.eqv]; rfl
@[simp] theorem eqv_str (i j : Str) : eqv (.str i) (.str j) = decide (i = j) := by
  simp only [eqv, toP, PyData.eqv]
  by_cases h : i = j
  · subst h; simp
  · rw [decide_eq_false h]; exact beq_eq_false_iff_ne.mpr h
@[simp] theorem eqv_bl (a b : Bool) : eqv (.bl a) (.bl b) = decide (a = b) := by cases a <;> cases b <;> simp [eqv, toP, PyData.eqv] <;> rfl
@[simp] theorem eqv_lst (x y : List D) : eqv (.lst x) (.lst y) = eqvs x y := by simp [eqv, toP, PyData.eqv, eqvs]
@[simp] theorem eqv_tup (x y : List D) : eqv (.tup x) (.tup y) = eqvs x y := by simp [eqv, toP, PyData.eqv, eqvs]
@[simp] theorem eqv_non : eqv .non .non = true := by simp [eqv, toP, PyData.eqv]
theorem eqvs_map {α : Type} [DecidableEq α] (f : α → D) (h : ∀ a b, eqv (f a) (f b) = decide (a = b)) : ∀ xs ys : List α, eqvs (xs.map f) (ys.map f) = decide (xs = ys)
  | [], [] => by simp
  | [], _ :: _ => by simp
  | _ :: _, [] => by simp
  | x :: xs, y :: ys => by
    rw [List.map_cons, List.map_cons, eqvs_cons, h, eqvs_map f h xs ys]
    by_cases a : x = y <;> by_cases b : xs = ys <;> simp [a, b]
@[simp] theorem eqvs_strs (xs ys : List Str) : eqvs (xs.map D.str) (ys.map D.str) = decide (xs = ys) := eqvs_map D.str eqv_str xs ys
@[simp] theorem eqvs_ints (xs ys : List Int) : eqvs (xs.map D.int) (ys.map D.int) = decide (xs = ys) := eqvs_map D.int eqv_int xs ys
/-! ### == != -/
/-- texts, numbers, truths of one kind are compared as they are; other data by ==, where it is laid out well -/
def eqD (x y : D) : Option D := match x, y with
  | .int i, .int j => some (.bl (decide (i = j)))
  | .str i, .str j => some (.bl (decide (i = j)))
  | .bl i, .bl j => some (.bl (decide (i = j)))
  | x, y => if eqOk x && eqOk y then some (.bl (eqv x y)) else none
def neD (x y : D) : Option D := (eqD x y).bind fun d => match d with
  | .bl b => some (.bl (!b))
  | _ => none
section
variable {K : PySem.W.Frag}
theorem bs_eq : BinS K (uEq K) eqD := fun x y d hf I H u v e r1 r2 Q q => by
  unfold eqD at hf
  split at hf
  · cases hf
    rw [r1.int, r2.int]
    refine .inl ⟨rfl, ?_⟩
    rename_i i j
    have : decide (V.int i = V.int j) = decide (i = j) := by simp
    rw [this]; exact q I H _ (Gr.refl e) (.bl _)
  · cases hf
    rw [r1.str, r2.str]
    refine .inl ⟨rfl, ?_⟩
    rename_i i j
    have : decide (V.str i = V.str j) = decide (i = j) := by simp
    rw [this]; exact q I H _ (Gr.refl e) (.bl _)
  · cases hf
    rw [r1.bl, r2.bl]
    refine .inl ⟨rfl, ?_⟩
    rename_i i j
    have : decide (V.bl i = V.bl j) = decide (i = j) := by simp
    rw [this]; exact q I H _ (Gr.refl e) (.bl _)
  · obtain ⟨hg, rfl⟩ := guard_eq hf
    rw [Bool.and_eq_true] at hg
    have h1 := hg.1; have h2 := hg.2
    simp only [eqOk, Bool.and_eq_true] at h1 h2
    exact .inr (.inl ⟨_, _, dpl e r1 h1.1, dpl e r2 h2.1, shaped_of hg.1, shaped_of hg.2, q I H _ (Gr.refl e) (.bl _)⟩)
theorem bs_ne : BinS K (uNe K) neD := fun x y d hf I H u v e r1 r2 Q q => by
  unfold neD at hf
  obtain ⟨d', hf, hd⟩ := Option.bind_eq_some_iff.mp hf
  unfold eqD at hf
  split at hf
  · cases hf
    cases hd
    rw [r1.int, r2.int]
    refine .inl ⟨rfl, ?_⟩
    rename_i i j
    have : decide (V.int i = V.int j) = decide (i = j) := by simp
    rw [this]; exact q I H _ (Gr.refl e) (.bl _)
  · cases hf
    cases hd
    rw [r1.str, r2.str]
    refine .inl ⟨rfl, ?_⟩
    rename_i i j
    have : decide (V.str i = V.str j) = decide (i = j) := by simp
    rw [this]; exact q I H _ (Gr.refl e) (.bl _)
  · cases hf
    cases hd
    rw [r1.bl, r2.bl]
    refine .inl ⟨rfl, ?_⟩
    rename_i i j
    have : decide (V.bl i = V.bl j) = decide (i = j) := by simp
    rw [this]; exact q I H _ (Gr.refl e) (.bl _)
  · obtain ⟨hg, rfl⟩ := guard_eq hf
    cases hd
    rw [Bool.and_eq_true] at hg
    have h1 := hg.1; have h2 := hg.2
    simp only [eqOk, Bool.and_eq_true] at h1 h2
    exact .inr ⟨_, _, dpl e r1 h1.1, dpl e r2 h2.1, shaped_of hg.1, shaped_of hg.2, q I H _ (Gr.refl e) (.bl _)⟩
/-! ### + - * // % ** -/
def addD (x y : D) : Option D := match x, y with
  | .int i, .int j => some (.int (i + j))
  | .str s, .str t => if s.length + t.length ≤ sizeLine then some (.str (s ++ t)) else none
  | .lst s, .lst t => if s.length + t.length ≤ sizeLine then some (.lst (s ++ t)) else none
  | .tup s, .tup t => if s.length + t.length ≤ sizeLine then some (.tup (s ++ t)) else none
  | _, _ => none
/-- lists alone, for a new one that may change -/
def catD (x y : D) : Option D := match x, y with
  | .lst s, .lst t => if s.length + t.length ≤ sizeLine then some (.lst (s ++ t)) else none
  | _, _ => none
theorem bf_cat : BinF K (uAdd K) catD := fun x y d hf I H u v e r1 r2 Q q => by
  unfold catD at hf
  split at hf
  · obtain ⟨hl, rfl⟩ := guard_eq hf
    obtain ⟨a, vs, rfl, h1, s1⟩ := r1.lst e
    obtain ⟨b, ws, rfl, h2, s2⟩ := r2.lst e
    exact .inr (.inr (.inl ⟨_, _, _, _, rfl, rfl, h1, h2, by rw [s1.length, s2.length]; exact hl, fun p hp => q p _ hp (.lst (s1.append s2))⟩))
  · cases hf
theorem rps_nil {I : Hp} {vs : List V} {ds : List D} (r : Rps K I vs ds) : vs = [] ↔ ds = [] := by cases r <;> simp
theorem bs_add : BinS K (uAdd K) addD := fun x y d hf I H u v e r1 r2 Q q => by
  unfold addD at hf
  split at hf
  · cases hf
    rw [r1.int, r2.int]
    exact .inl ⟨_, _, rfl, rfl, q I H _ (Gr.refl e) (.int _)⟩
  · obtain ⟨hl, rfl⟩ := guard_eq hf
    rw [r1.str, r2.str]
    exact .inr (.inl ⟨_, _, rfl, rfl, hl, q I H _ (Gr.refl e) (.str _)⟩)
  · rename_i s t
    exact bf_cat.s (.lst s) (.lst t) d hf I H u v e r1 r2 Q q
  · obtain ⟨hl, rfl⟩ := guard_eq hf
    obtain ⟨a, vs, rfl, i1, h1, s1⟩ := r1.tup e
    obtain ⟨b, ws, rfl, i2, h2, s2⟩ := r2.tup e
    refine .inr (.inr (.inr ⟨_, _, _, _, rfl, rfl, .inl (.inl h1), .inl (.inl h2), by rw [s1.length, s2.length]; exact hl, fun h => ?_, fun _ h => ?_, fun _ _ p hp => ?_⟩))
    · have := (rps_nil s1).mp h; subst this
      exact q I H _ (Gr.refl e) (.tup i2 s2)
    · have := (rps_nil s2).mp h; subst this
      rw [List.append_nil] at q
      exact q I H _ (Gr.refl e) (.tup i1 s1)
    · exact q _ _ _ (Gr.new e hp) (.tup upd_same ((s1.append s2).mono (Ex.new (e.free hp))))
  · cases hf
def subD (x y : D) : Option D := match x, y with
  | .int i, .int j => some (.int (i - j))
  | _, _ => none
theorem bs_sub : BinS K (rI0 fun i j => .int (i - j)) subD := fun x y d hf I H u v e r1 r2 Q q => by
  unfold subD at hf
  split at hf
  · cases hf
    rw [r1.int, r2.int]
    exact ⟨_, _, rfl, rfl, q I H _ (Gr.refl e) (.int _)⟩
  · cases hf
def mulD (x y : D) : Option D := match x, y with
  | .int i, .int j => if i.natAbs.log2 + j.natAbs.log2 < 1000000 then some (.int (i * j)) else none
  | .lst xs, .int n => if -(2 ^ 63) ≤ n ∧ n < 2 ^ 63 ∧ xs.length * n.toNat ≤ sizeLine then some (.lst (List.replicate n.toNat xs).flatten) else none
  | _, _ => none
theorem rps_rep {I : Hp} {vs : List V} {xs : List D} (r : Rps K I vs xs) : ∀ m : Nat, Rps K I (List.replicate m vs).flatten (List.replicate m xs).flatten
  | 0 => .nil
  | m + 1 => by rw [List.replicate_succ, List.replicate_succ, List.flatten_cons, List.flatten_cons]; exact r.append (rps_rep r m)
theorem bs_mul : BinS K uMul mulD := fun x y d hf I H u v e r1 r2 Q q => by
  unfold mulD at hf
  split at hf
  · obtain ⟨hl, rfl⟩ := guard_eq hf
    rw [r1.int, r2.int]
    exact .inl ⟨_, _, rfl, rfl, hl, q I H _ (Gr.refl e) (.int _)⟩
  · obtain ⟨hl, rfl⟩ := guard_eq hf
    obtain ⟨a, vs, rfl, h1, s1⟩ := r1.lst e
    rw [r2.int]
    refine .inr ⟨_, _, _, rfl, rfl, h1, hl.1, hl.2.1, by rw [s1.length]; exact hl.2.2, fun p hp => ?_⟩
    exact q _ _ _ (Gr.new e hp) (.lst upd_same ((rps_rep s1 _).mono (Ex.new (e.free hp))))
  · cases hf
def modD (x y : D) : Option D := match x, y with
  | .int i, .int j => if 0 < j then some (.int (i % j)) else none
  | _, _ => none
theorem bs_mod : BinS K (rI (fun _ j => j ≠ 0) fun i j => .int (i.fmod j)) modD := fun x y d hf I H u v e r1 r2 Q q => by
  unfold modD at hf
  split at hf
  · rename_i i j
    obtain ⟨hl, rfl⟩ := guard_eq hf
    rw [r1.int, r2.int]
    have em : i.fmod j = i % j := Int.fmod_eq_emod_of_nonneg i (Int.le_of_lt hl)
    refine ⟨_, _, rfl, rfl, by omega, ?_⟩
    show Q (V.int (i.fmod j)) H
    rw [em]
    exact q I H _ (Gr.refl e) (.int _)
  · cases hf
def divD (x y : D) : Option D := match x, y with
  | .int i, .int j => if 0 < j ∧ j < 2 ^ 64 then some (.int (i / j)) else none
  | _, _ => none
theorem bs_div : BinS K (rI CDivW fun i j => .int (i / j)) divD := fun x y d hf I H u v e r1 r2 Q q => by
  unfold divD at hf
  split at hf
  · rename_i i j
    obtain ⟨hl, rfl⟩ := guard_eq hf
    rw [r1.int, r2.int]
    refine ⟨_, _, rfl, rfl, ⟨hl.1, ?_⟩, q I H _ (Gr.refl e) (.int _)⟩
    have h2 : j.natAbs < 2 ^ 64 := by omega
    have h3 : j.natAbs ≠ 0 := by omega
    exact Nat.lt_trans ((Nat.log2_lt h3).mpr h2) (by decide)
  · cases hf
def powD (x y : D) : Option D := match x, y with
  | .int i, .int j => if 0 ≤ j ∧ j ≤ 1000000 ∧ i.natAbs < 2 ^ 64 then some (.int (i ^ j.toNat)) else none
  | _, _ => none
theorem bs_pow : BinS K (rI CPow fun i j => .int (i ^ j.toNat)) powD := fun x y d hf I H u v e r1 r2 Q q => by
  unfold powD at hf
  split at hf
  · obtain ⟨hl, rfl⟩ := guard_eq hf
    rw [r1.int, r2.int]
    exact ⟨_, _, rfl, rfl, hl, q I H _ (Gr.refl e) (.int _)⟩
  · cases hf
def negD (x : D) : Option D := match x with
  | .int i => some (.int (-i))
  | _ => none
theorem us_neg : UnS K (rU fun i => .int (-i)) negD := fun x d hf I H u e r1 Q q => by
  unfold negD at hf
  split at hf
  · cases hf
    rw [r1.int]
    exact ⟨_, rfl, q I H _ (Gr.refl e) (.int _)⟩
  · cases hf
/-! ### order -/
def ltD (x y : D) : Option D := match x, y with
  | .int i, .int j => some (.bl (decide (i < j)))
  | .str i, .str j => some (.bl (decide (i.cps.toList < j.cps.toList)))
  | _, _ => none
def leD (x y : D) : Option D := match x, y with
  | .int i, .int j => some (.bl (decide (i ≤ j)))
  | .str i, .str j => some (.bl (!decide (j.cps.toList < i.cps.toList)))
  | _, _ => none
def gtD (x y : D) : Option D := match x, y with
  | .int i, .int j => some (.bl (decide (j < i)))
  | .str i, .str j => some (.bl (decide (j.cps.toList < i.cps.toList)))
  | _, _ => none
def geD (x y : D) : Option D := match x, y with
  | .int i, .int j => some (.bl (decide (j ≤ i)))
  | .str i, .str j => some (.bl (!decide (i.cps.toList < j.cps.toList)))
  | _, _ => none
theorem bs_lt : BinS K uLt ltD := fun x y d hf I H u v e r1 r2 Q q => by
  unfold ltD at hf
  split at hf
  · cases hf; rw [r1.int, r2.int]; exact .inl ⟨_, _, rfl, rfl, q I H _ (Gr.refl e) (.bl _)⟩
  · cases hf; rw [r1.str, r2.str]; exact .inr ⟨_, _, rfl, rfl, q I H _ (Gr.refl e) (.bl _)⟩
  · cases hf
theorem bs_le : BinS K uLe leD := fun x y d hf I H u v e r1 r2 Q q => by
  unfold leD at hf
  split at hf
  · cases hf; rw [r1.int, r2.int]; exact .inl ⟨_, _, rfl, rfl, q I H _ (Gr.refl e) (.bl _)⟩
  · cases hf; rw [r1.str, r2.str]; exact .inr ⟨_, _, rfl, rfl, q I H _ (Gr.refl e) (.bl _)⟩
  · cases hf
theorem bs_gt : BinS K uGt gtD := fun x y d hf I H u v e r1 r2 Q q => by
  unfold gtD at hf
  split at hf
  · cases hf; rw [r1.int, r2.int]; exact .inl ⟨_, _, rfl, rfl, q I H _ (Gr.refl e) (.bl _)⟩
  · cases hf; rw [r1.str, r2.str]; exact .inr ⟨_, _, rfl, rfl, q I H _ (Gr.refl e) (.bl _)⟩
  · cases hf
theorem bs_ge : BinS K uGe geD := fun x y d hf I H u v e r1 r2 Q q => by
  unfold geD at hf
  split at hf
  · cases hf; rw [r1.int, r2.int]; exact .inl ⟨_, _, rfl, rfl, q I H _ (Gr.refl e) (.bl _)⟩
  · cases hf; rw [r1.str, r2.str]; exact .inr ⟨_, _, rfl, rfl, q I H _ (Gr.refl e) (.bl _)⟩
  · cases hf
/-! ### is None -/
def isNon : D → Bool
  | .non => true
  | _ => false
def isND (x y : D) : Option D := match y with
  | .non => some (.bl (isNon x))
  | _ => none
def nnND (x y : D) : Option D := match y with
  | .non => some (.bl (!isNon x))
  | _ => none
theorem isNon_v {I H : Hp} {u : V} {x : D} (r : RpL K I H u x) : decide (u = .non) = isNon x := by
  cases r with
  | p r => cases r <;> simp [isNon]
  | m _ r => cases r <;> simp [isNon]
theorem bs_isN : BinS K (fun x y H Q => y = .non ∧ Q (.bl (decide (x = .non))) H) isND := fun x y d hf I H u v e r1 r2 Q q => by
  unfold isND at hf
  split at hf
  · cases hf
    refine ⟨r2.non, ?_⟩
    rw [isNon_v r1]
    exact q I H _ (Gr.refl e) (.bl _)
  · cases hf
theorem bs_nnN : BinS K (fun x y H Q => y = .non ∧ Q (.bl (!decide (x = .non))) H) nnND := fun x y d hf I H u v e r1 r2 Q q => by
  unfold nnND at hf
  split at hf
  · cases hf
    refine ⟨r2.non, ?_⟩
    rw [isNon_v r1]
    exact q I H _ (Gr.refl e) (.bl _)
  · cases hf
end
end S

namespace S
open PySem PySem.Spec L2
open G (Ex Gr ex_l ex_t ExnAt exx exx_ok uAdd uMul uEq uNe uSl uLen uLt uLe uGt uGe rJoin rLo rTo rLn rLnD)
theorem guard_eqO {P : Prop} [Decidable P] {α : Type} {a : Option α} {d : α} (h : (if P then a else none) = some d) : P ∧ a = some d := by
  split at h
  · exact ⟨by assumption, h⟩
  · cases h
/-! ### flat data -/
def flatD : D → Bool
  | .non => true
  | .bl _ => true
  | .int _ => true
  | .str _ => true
  | _ => false
def toV : D → V
  | .bl b => .bl b
  | .int i => .int i
  | .str s => .str s
  | _ => .non
section
variable {K : PySem.W.Frag}
theorem rp_toV {I : Hp} {v : V} {d : D} (r : Rp K I v d) (f : flatD d = true) : v = toV d ∧ flatV v = true := by
  cases r <;> first | exact ⟨rfl, rfl⟩ | cases f
theorem rpl_toV {I H : Hp} {v : V} {d : D} (r : RpL K I H v d) (f : flatD d = true) : v = toV d ∧ flatV v = true := by
  cases r with
  | p r => exact rp_toV r f
  | m _ r => cases r <;> cases f
theorem rps_toV {I : Hp} : ∀ {vs : List V} {ds : List D}, Rps K I vs ds → ds.all flatD = true → vs = ds.map toV ∧ vs.all flatV = true
  | _, _, .nil, _ => ⟨rfl, rfl⟩
  | _, _, .cons h r, f => by
    rw [List.all_cons, Bool.and_eq_true] at f
    obtain ⟨a, b⟩ := rp_toV h f.1
    obtain ⟨c, d⟩ := rps_toV r f.2
    exact ⟨by rw [a, c]; rfl, by rw [List.all_cons, b, d]; rfl⟩
theorem eqV_toV {x y : D} (fx : flatD x = true) (fy : flatD y = true) : eqV (toV x) (toV y) = eqv x y := by
  cases x <;> first | (cases fx; done) | skip
  all_goals cases y <;> first | (cases fy; done) | (simp [toV, eqV, eqv, toP, PyData.eqv]; done) | (simp [toV, eqV, eqv, toP, PyData.eqv]; rfl) | skip
theorem inV_toV {x : D} (fx : flatD x = true) : ∀ {ds : List D}, ds.all flatD = true → inV (toV x) (ds.map toV) = ds.any fun z => eqv z x
  | [], _ => rfl
  | d :: ds, f => by
    rw [List.all_cons, Bool.and_eq_true] at f
    have := inV_toV fx f.2
    unfold inV at this ⊢
    rw [List.map_cons, List.any_cons, List.any_cons, eqV_toV f.1 fx, this]
theorem toPs_any {x : D} : ∀ {ds : List D}, ((toPs ds).any fun z => PyData.eqv z (toP x)) = ds.any fun z => eqv z x
  | [] => by simp [toPs]
  | d :: ds => by simp [toPs, toPs_any (x := x) (ds := ds), eqv]
/-! ### keys of dicts -/
def keyOf : D → Option Key
  | .int i => some (.inl i)
  | .str s => some (.inr s)
  | _ => none
def keysOf : List D → Option (List Key)
  | [] => some []
  | d :: ds => (keyOf d).bind fun k => (keysOf ds).bind fun ks => some (k :: ks)
def tkeyOf : D → Option (List Key)
  | .tup ds => keysOf ds
  | _ => none
theorem key_v {I H : Hp} {v : V} {d : D} {k : Key} (r : RpL K I H v d) (h : keyOf d = some k) : v = kV k := by
  cases d <;> first | (cases h; done) | skip
  · cases h; exact r.int
  · cases h; exact r.str
theorem keys_v {I : Hp} : ∀ {vs : List V} {ds : List D} {ks : List Key}, Rps K I vs ds → keysOf ds = some ks → vs = ks.map kV
  | _, _, _, .nil, h => by cases h; rfl
  | _, _, _, .cons r rs, h => by
    unfold keysOf at h
    obtain ⟨k, h1, h⟩ := Option.bind_eq_some_iff.mp h
    obtain ⟨ks, h2, h⟩ := Option.bind_eq_some_iff.mp h
    cases h
    rw [key_v (.p (H := I) r) h1, keys_v rs h2]; rfl
theorem tkey_v {I H : Hp} {v : V} {d : D} {k : List Key} (e : Ex I H) (r : RpL K I H v d) (h : tkeyOf d = some k) : ∃ b, v = .ref b ∧ H b = some (.tup (k.map kV)) := by
  cases d <;> first | (cases h; done) | skip
  obtain ⟨a, vs, rfl, _, h1, h2⟩ := r.tup e
  exact ⟨a, rfl, by rw [h1, keys_v h2 h]⟩
/-- what a table has at a key -/
def findD {κ : Type} [DecidableEq κ] : List κ → List D → κ → Option D
  | k :: ks, d :: ds, j => if k = j then some d else findD ks ds j
  | _, _, _ => none
theorem find_v {κ : Type} [DecidableEq κ] {I : Hp} {j : κ} : ∀ {ks : List κ} {vs : List V} {ds : List D}, Rps K I vs ds → ks.length = vs.length → (∀ d, findD ks ds j = some d → ∃ v, valV (ks.zip vs) j = some v ∧ Rp K I v d) ∧ (findD ks ds j = none → valV (ks.zip vs) j = none)
  | [], _, _, _, _ => ⟨fun d h => by simp [findD] at h, fun _ => rfl⟩
  | _ :: _, [], _, _, h => by cases h
  | k :: ks, _ :: _, _ :: _, .cons r rs, h => by
    have ih := find_v (j := j) (ks := ks) rs (by simpa using h)
    by_cases e : k = j
    · refine ⟨fun d q => ?_, fun q => ?_⟩
      · rw [findD, if_pos e] at q
        cases q
        exact ⟨_, by rw [List.zip_cons_cons, valV_pos e], r⟩
      · rw [findD, if_pos e] at q; cases q
    · refine ⟨fun d q => ?_, fun q => ?_⟩
      · rw [findD, if_neg e] at q
        rw [List.zip_cons_cons, valV_neg e]
        exact ih.1 d q
      · rw [findD, if_neg e] at q
        rw [List.zip_cons_cons, valV_neg e]
        exact ih.2 q
theorem find_len {κ : Type} [DecidableEq κ] {j : κ} : ∀ {ks : List κ} {ds : List D}, ks.length = ds.length → (findD ks ds j).isSome = decide (j ∈ ks)
  | [], _, _ => by simp [findD]
  | _ :: _, [], h => by cases h
  | k :: ks, d :: ds, h => by
    by_cases e : k = j
    · simp [findD, e]
    · simp [findD, e, find_len (j := j) (ks := ks) (ds := ds) (by simpa using h), Ne.symm e]
/-- a dict's value at a key, if it may be asked -/
def dgetD (x y : D) : Option (Option D) := match x with
  | .dic ks ds => if ks.length = ds.length then (keyOf y).bind fun k => some (findD ks ds k) else none
  | .dit ks ds => if ks.length = ds.length then (tkeyOf y).bind fun k => some (findD ks ds k) else none
  | _ => none
theorem dget_v {I H : Hp} {u v : V} {x y : D} {r : Option D} (e : Ex I H) (r1 : RpL K I H u x) (r2 : RpL K I H v y) (h : dgetD x y = some r) : ∃ a o, u = .ref a ∧ DGet H a v o ∧ IsD H a ∧ (∀ d, r = some d → ∃ w, o = some w ∧ Rp K I w d) ∧ (r = none → o = none) := by
  unfold dgetD at h
  split at h
  · rename_i ks ds
    split at h
    · obtain ⟨k, h1, h⟩ := Option.bind_eq_some_iff.mp h
      cases h
      obtain ⟨a, vs, rfl, h2, h3, h4⟩ := r1.dic e
      have f := find_v (j := k) h4 h3
      refine ⟨a, _, rfl, .inl ⟨_, k, .inl h2, key_v r2 h1, rfl⟩, .inl ⟨_, .inl h2⟩, fun d hd => ?_, f.2⟩
      obtain ⟨w, hw, rw⟩ := f.1 d hd
      exact ⟨w, hw, rw⟩
    · cases h
  · rename_i ks ds
    split at h
    · obtain ⟨k, h1, h⟩ := Option.bind_eq_some_iff.mp h
      cases h
      obtain ⟨a, vs, rfl, h2, h3, h4⟩ := r1.dit e
      have f := find_v (j := k) h4 h3
      obtain ⟨b, rfl, h5⟩ := tkey_v e r2 h1
      refine ⟨a, _, rfl, .inr ⟨_, k, b, .inl h2, rfl, h5, rfl⟩, .inr ⟨_, .inl h2⟩, fun d hd => ?_, f.2⟩
      obtain ⟨w, hw, rw⟩ := f.1 d hd
      exact ⟨w, hw, rw⟩
    · cases h
  · cases h
end
/-! ### in, not in -/
def rDIn : R2 := fun y x H Q => ∃ a o, x = .ref a ∧ DGet H a y o ∧ Q (.bl o.isSome) H
def rDNi : R2 := fun y x H Q => ∃ a o, x = .ref a ∧ DGet H a y o ∧ Q (.bl (!o.isSome)) H
section
variable {X : Cx}
theorem op_dIn (hu : X.A.units + 64 < cLine) : OpR X (compareOp .In) rDIn := by
  intro pins s σ H y x iv u Q I ry rx h
  obtain ⟨a, ov, ex, g, q2⟩ := h
  subst ex
  obtain rfl : u = Value.ref a := rx
  exact d_in (by omega) I g ry fun s3 I3 => ⟨.bl ov.isSome, H, I3, rfl, q2⟩
theorem op_dNi (hu : X.A.units + 64 < cLine) : OpR X (compareOp .NotIn) rDNi := by
  intro pins s σ H y x iv u Q I ry rx h
  obtain ⟨a, ov, ex, g, q2⟩ := h
  subst ex
  obtain rfl : u = Value.ref a := rx
  exact d_notIn (by omega) I g ry fun s3 I3 => ⟨.bl (!ov.isSome), H, I3, rfl, q2⟩
def uIn (K : PySem.W.Frag) : R2 := fun x y H Q => G.uIn K x y H Q ∨ (fun x y H Q => rInD K x y H Q ∨ rDIn x y H Q) x y H Q
def uNi (K : PySem.W.Frag) : R2 := fun x y H Q => G.uNi K x y H Q ∨ (fun x y H Q => rNotInD K x y H Q ∨ rDNi x y H Q) x y H Q
theorem k_in (K : PySem.W.Frag) (hu : X.A.units + 65 < cLine) (hK : X.K = K := by rfl) : OpR X (compareOp .In) (uIn K) := by subst hK; exact G.op_or G.op_uIn (G.op_or (op_inD hu) (op_dIn (by omega)))
theorem k_ni (K : PySem.W.Frag) (hu : X.A.units + 65 < cLine) (hK : X.K = K := by rfl) : OpR X (compareOp .NotIn) (uNi K) := by subst hK; exact G.op_or G.op_uNi (G.op_or (op_notInD hu) (op_dNi (by omega)))
end
def inB (x y : D) : Option Bool := match y with
  | .str z => match x with
    | .str s => (match s.cps.toList with
      | [c] => some (decide (c ∈ z.cps.toList))
      | _ => none)
    | _ => none
  | .lst ds => if flatD x && ds.all flatD then some (ds.any fun z => eqv z x) else if eqOk x && eqOk (.lst ds) then some (ds.any fun z => eqv z x) else none
  | .fl ds => if flatD x && ds.all flatD then some (ds.any fun z => eqv z x) else none
  | .tup ds => if flatD x && ds.all flatD then some (ds.any fun z => eqv z x) else none
  | .kt ds => if flatD x && ds.all flatD then some (ds.any fun z => eqv z x) else none
  | .dic ks ds => (dgetD (.dic ks ds) x).bind fun o => some o.isSome
  | .dit ks ds => (dgetD (.dit ks ds) x).bind fun o => some o.isSome
  | _ => none
def inD (x y : D) : Option D := (inB x y).bind fun b => some (.bl b)
def niD (x y : D) : Option D := (inB x y).bind fun b => some (.bl (!b))
section
variable {K : PySem.W.Frag}
theorem str1 {s : Str} {c : Nat} (h : s.cps.toList = [c]) : s = ⟨#[c]⟩ := by
  obtain ⟨a⟩ := s
  have : a = #[c] := by
    apply Array.toList_inj.mp
    exact h
  rw [this]
theorem osome {I : Hp} {o : Option V} {r : Option D} (h1 : ∀ d, r = some d → ∃ w, o = some w ∧ Rp K I w d) (h2 : r = none → o = none) : o.isSome = r.isSome := by
  cases r with
  | none => rw [h2 rfl]; rfl
  | some d => obtain ⟨w, e, _⟩ := h1 d rfl; rw [e]; rfl
theorem bs_in : BinS K (uIn K) inD := fun x y d hf I H u v e r1 r2 Q q => by
  unfold inD at hf
  obtain ⟨b, hb, hf⟩ := Option.bind_eq_some_iff.mp hf
  cases hf
  have qb := q I H _ (Gr.refl e) (.bl b)
  unfold inB at hb
  split at hb
  · split at hb
    · rename_i z _ s
      cases hs : s.cps.toList with
      | nil => simp only [hs] at hb; cases hb
      | cons c l =>
        cases l with
        | nil =>
          simp only [hs] at hb
          cases hb
          rw [r1.str, r2.str, str1 hs]
          exact .inl (.inl ⟨c, _, rfl, rfl, qb⟩)
        | cons _ _ => simp only [hs] at hb; cases hb
    · cases hb
  · rename_i ds
    split at hb
    · rename_i hg
      rw [Bool.and_eq_true] at hg
      cases hb
      obtain ⟨a, vs, rfl, h1, h2⟩ := r2.l e .lst
      obtain ⟨rfl, f1⟩ := rpl_toV r1 hg.1
      obtain ⟨rfl, f2⟩ := rps_toV h2 hg.2
      refine .inl (.inr ⟨a, _, rfl, .inl h1, f1, f2, ?_⟩)
      rw [if_neg Bool.false_ne_true, inV_toV hg.1 hg.2]; exact qb
    · split at hb
      · rename_i hg
        rw [Bool.and_eq_true] at hg
        cases hb
        have h1 := hg.1; have h2 := hg.2
        simp only [eqOk, Bool.and_eq_true] at h1 h2
        have d2 := dpl e r2 h2.1
        have s2 := shaped_of hg.2
        rw [toP] at d2 s2
        refine .inr (.inl ⟨_, _, dpl e r1 h1.1, d2, shaped_of hg.1, s2, ?_⟩)
        rw [toPs_any]; exact qb
      · cases hb
  · obtain ⟨hg, hb⟩ := guard_eq hb
    rw [Bool.and_eq_true] at hg
    subst hb
    obtain ⟨a, vs, rfl, h1, h2⟩ := r2.l e .fl
    obtain ⟨rfl, f1⟩ := rpl_toV r1 hg.1
    obtain ⟨rfl, f2⟩ := rps_toV h2 hg.2
    refine .inl (.inr ⟨a, _, rfl, .inl h1, f1, f2, ?_⟩)
    rw [if_neg Bool.false_ne_true, inV_toV hg.1 hg.2]; exact qb
  · obtain ⟨hg, hb⟩ := guard_eq hb
    rw [Bool.and_eq_true] at hg
    subst hb
    obtain ⟨a, vs, rfl, _, h1, h2⟩ := r2.t e .tup
    obtain ⟨rfl, f1⟩ := rpl_toV r1 hg.1
    obtain ⟨rfl, f2⟩ := rps_toV h2 hg.2
    refine .inl (.inr ⟨a, _, rfl, .inr h1, f1, f2, ?_⟩)
    rw [if_neg Bool.false_ne_true, inV_toV hg.1 hg.2]; exact qb
  · obtain ⟨hg, hb⟩ := guard_eq hb
    rw [Bool.and_eq_true] at hg
    subst hb
    obtain ⟨a, vs, rfl, _, h1, h2⟩ := r2.t e .kt
    obtain ⟨rfl, f1⟩ := rpl_toV r1 hg.1
    obtain ⟨rfl, f2⟩ := rps_toV h2 hg.2
    refine .inl (.inr ⟨a, _, rfl, .inr h1, f1, f2, ?_⟩)
    rw [if_neg Bool.false_ne_true, inV_toV hg.1 hg.2]; exact qb
  · obtain ⟨o, h, hb⟩ := Option.bind_eq_some_iff.mp hb
    cases hb
    obtain ⟨a, w, rfl, h1, _, h2, h3⟩ := dget_v e r2 r1 h
    exact .inr (.inr ⟨a, w, rfl, h1, by rw [osome h2 h3]; exact qb⟩)
  · obtain ⟨o, h, hb⟩ := Option.bind_eq_some_iff.mp hb
    cases hb
    obtain ⟨a, w, rfl, h1, _, h2, h3⟩ := dget_v e r2 r1 h
    exact .inr (.inr ⟨a, w, rfl, h1, by rw [osome h2 h3]; exact qb⟩)
  · cases hb
theorem bs_ni : BinS K (uNi K) niD := fun x y d hf I H u v e r1 r2 Q q => by
  unfold niD at hf
  obtain ⟨b, hb, hf⟩ := Option.bind_eq_some_iff.mp hf
  cases hf
  have qb := q I H _ (Gr.refl e) (.bl (!b))
  unfold inB at hb
  split at hb
  · split at hb
    · rename_i z _ s
      cases hs : s.cps.toList with
      | nil => simp only [hs] at hb; cases hb
      | cons c l =>
        cases l with
        | nil =>
          simp only [hs] at hb
          cases hb
          rw [r1.str, r2.str, str1 hs]
          exact .inl (.inl ⟨c, _, rfl, rfl, qb⟩)
        | cons _ _ => simp only [hs] at hb; cases hb
    · cases hb
  · rename_i ds
    split at hb
    · rename_i hg
      rw [Bool.and_eq_true] at hg
      cases hb
      obtain ⟨a, vs, rfl, h1, h2⟩ := r2.l e .lst
      obtain ⟨rfl, f1⟩ := rpl_toV r1 hg.1
      obtain ⟨rfl, f2⟩ := rps_toV h2 hg.2
      refine .inl (.inr ⟨a, _, rfl, .inl h1, f1, f2, ?_⟩)
      rw [if_pos rfl, inV_toV hg.1 hg.2]; exact qb
    · split at hb
      · rename_i hg
        rw [Bool.and_eq_true] at hg
        cases hb
        have h1 := hg.1; have h2 := hg.2
        simp only [eqOk, Bool.and_eq_true] at h1 h2
        have d2 := dpl e r2 h2.1
        have s2 := shaped_of hg.2
        rw [toP] at d2 s2
        refine .inr (.inl ⟨_, _, dpl e r1 h1.1, d2, shaped_of hg.1, s2, ?_⟩)
        rw [toPs_any]; exact qb
      · cases hb
  · obtain ⟨hg, hb⟩ := guard_eq hb
    rw [Bool.and_eq_true] at hg
    subst hb
    obtain ⟨a, vs, rfl, h1, h2⟩ := r2.l e .fl
    obtain ⟨rfl, f1⟩ := rpl_toV r1 hg.1
    obtain ⟨rfl, f2⟩ := rps_toV h2 hg.2
    refine .inl (.inr ⟨a, _, rfl, .inl h1, f1, f2, ?_⟩)
    rw [if_pos rfl, inV_toV hg.1 hg.2]; exact qb
  · obtain ⟨hg, hb⟩ := guard_eq hb
    rw [Bool.and_eq_true] at hg
    subst hb
    obtain ⟨a, vs, rfl, _, h1, h2⟩ := r2.t e .tup
    obtain ⟨rfl, f1⟩ := rpl_toV r1 hg.1
    obtain ⟨rfl, f2⟩ := rps_toV h2 hg.2
    refine .inl (.inr ⟨a, _, rfl, .inr h1, f1, f2, ?_⟩)
    rw [if_pos rfl, inV_toV hg.1 hg.2]; exact qb
  · obtain ⟨hg, hb⟩ := guard_eq hb
    rw [Bool.and_eq_true] at hg
    subst hb
    obtain ⟨a, vs, rfl, _, h1, h2⟩ := r2.t e .kt
    obtain ⟨rfl, f1⟩ := rpl_toV r1 hg.1
    obtain ⟨rfl, f2⟩ := rps_toV h2 hg.2
    refine .inl (.inr ⟨a, _, rfl, .inr h1, f1, f2, ?_⟩)
    rw [if_pos rfl, inV_toV hg.1 hg.2]; exact qb
  · obtain ⟨o, h, hb⟩ := Option.bind_eq_some_iff.mp hb
    cases hb
    obtain ⟨a, w, rfl, h1, _, h2, h3⟩ := dget_v e r2 r1 h
    exact .inr (.inr ⟨a, w, rfl, h1, by rw [osome h2 h3]; exact qb⟩)
  · obtain ⟨o, h, hb⟩ := Option.bind_eq_some_iff.mp hb
    cases hb
    obtain ⟨a, w, rfl, h1, _, h2, h3⟩ := dget_v e r2 r1 h
    exact .inr (.inr ⟨a, w, rfl, h1, by rw [osome h2 h3]; exact qb⟩)
  · cases hb
end
/-! ### x[i] -/
def rDGet : R2 := fun x y H Q => ∃ a v, x = .ref a ∧ DGet H a y (some v) ∧ Q v H
section
open PyProof.Rows
variable {X : Cx}
theorem ix_dict (hu : X.A.units + 64 < cLine) : IxR X rDGet := by
  intro value slice pins s σ H x y v u Q I rx ry h hs
  obtain ⟨a, w, rfl, g, q⟩ := h
  obtain rfl : v = Value.ref a := rx
  have hT := dict_typeIs I g
  unfold subscriptTail
  refine wpAny_bind ?_
  rw [getitemInPython_of_ne hT.not_modules]
  refine wpAny_bind (wpAny_specialOf hT PySem.F.slot_dict_getitem.lookup ?_)
  have fin : wpAny (model X.prog X.w) X.A (subscripted slice false (.ref a) u) (fun r s₃ => wpAny (model X.prog X.w) X.A (letTemporaryGo value (.ref a) r >>= fun _ => pure r) (EP X pins σ Q) X.xe s₃) X.xe s := by
    rw [hs]
    exact wpAny_operating (wpAny_mono (d_getItem (Q := fun r s₃ => EP X pins σ Q r s₃) (by omega) I g ry fun w' s3 I3 rw' => ⟨w, H, I3, rw', q⟩) (fun r s₃ h₃ => wpAny_bind (wpAny_letTemporaryGo (wpAny_pure h₃))) fun _ _ x => x)
  first
    | exact wpAny_pure (wpAny_bind fin)
    | exact wpAny_bind (wpAny_pure (wpAny_bind fin))
    | exact wpAny_bind fin
def uIx (K : PySem.W.Frag) : R2 := fun x y H Q => rIx K x y H Q ∨ rDGet x y H Q
theorem k_ix (K : PySem.W.Frag) (hu : X.A.units + 65 < cLine) (hK : X.K = K := by rfl) : IxR X (uIx K) := by subst hK; exact ix_seq.or (ix_dict (by omega))
end
def atD (ds : List D) : D → Option D
  | .int i => atI ds i
  | _ => none
def atS (z : Str) : D → Option D
  | .int i => if z.length ≤ sizeLine then (atI z.cps.toList i).map fun c => .str ⟨#[c]⟩ else none
  | _ => none
theorem atD_some {ds : List D} {y d : D} (h : atD ds y = some d) : ∃ i, y = .int i ∧ atI ds i = some d := by
  cases y <;> first | exact ⟨_, rfl, h⟩ | cases h
theorem atS_some {z : Str} {y d : D} (h : atS z y = some d) : ∃ i c, y = .int i ∧ z.length ≤ sizeLine ∧ atI z.cps.toList i = some c ∧ d = .str ⟨#[c]⟩ := by
  cases y <;> first | (cases h; done) | skip
  obtain ⟨hl, h⟩ := guard_eqO h
  obtain ⟨c, hc, rfl⟩ := Option.map_eq_some_iff.mp h
  exact ⟨_, c, rfl, hl, hc, rfl⟩
def ixD (x y : D) : Option D := match x with
  | .lst ds => atD ds y
  | .fl ds => atD ds y
  | .tup ds => atD ds y
  | .kt ds => atD ds y
  | .str z => atS z y
  | .dic ks ds => (dgetD (.dic ks ds) y).bind id
  | .dit ks ds => (dgetD (.dit ks ds) y).bind id
  | _ => none
/-- x[i]: of a list of cells a cell -/
def sIx (a b : Sg → Rs U) : Sg → Rs U := fun Γ => (a Γ).bind fun x Γ1 => (b Γ1).bind fun y Γ2 => match x with
  | .d x => ofO ((dr Γ2.mm y).bind fun y => ixD x y) Γ2
  | .lc j => match Γ2.mm[j]? with
    | some (.p x) => ofO ((dr Γ2.mm y).bind fun y => ixD x y) Γ2
    | some (.n us) => (match y with
      | .d (.int i) => (match atI us i with
        | some u => .ok u Γ2
        | none => .st)
      | _ => .st)
    | _ => .st
section
variable {K : PySem.W.Frag} {W : WX} {ta tb : TE} {a b : Sg → Rs U}
theorem rps_at {I : Hp} {vs : List V} {ds : List D} {i : Int} {d : D} (r : Rps K I vs ds) (h : atI ds i = some d) : ∃ v, atI vs i = some v ∧ Rp K I v d := by
  unfold atI at h ⊢
  rw [r.length]
  cases hx : ixN ds.length i with
  | none => rw [hx] at h; cases h
  | some j =>
    rw [hx] at h
    exact r.get (i := j) h
theorem rus_at {I : Hp} {as : Nat → Addr} {n : Nat} {vs : List V} {us : List U} {i : Int} {u : U} (r : RUs K I as n vs us) (h : atI us i = some u) : ∃ v, atI vs i = some v ∧ RU K I as n v u := by
  unfold atI at h ⊢
  rw [r.length]
  cases hx : ixN us.length i with
  | none => rw [hx] at h; cases h
  | some j =>
    rw [hx] at h
    exact r.get (i := j) h
theorem bs_ix : BinS K (uIx K) ixD := fun x y d hf I H u v e r1 r2 Q q => by
  cases x with
  | lst ds =>
    obtain ⟨i, rfl, h⟩ := atD_some hf
    obtain ⟨a, vs, rfl, h1, h2⟩ := r1.l e .lst
    obtain ⟨w, hw, rw⟩ := rps_at h2 h
    rw [r2.int]
    exact .inl (.inl ⟨a, vs, i, w, rfl, rfl, h1, hw, q I H w (Gr.refl e) rw⟩)
  | fl ds =>
    obtain ⟨i, rfl, h⟩ := atD_some hf
    obtain ⟨a, vs, rfl, h1, h2⟩ := r1.l e .fl
    obtain ⟨w, hw, rw⟩ := rps_at h2 h
    rw [r2.int]
    exact .inl (.inl ⟨a, vs, i, w, rfl, rfl, h1, hw, q I H w (Gr.refl e) rw⟩)
  | tup ds =>
    obtain ⟨i, rfl, h⟩ := atD_some hf
    obtain ⟨a, vs, rfl, _, h1, h2⟩ := r1.t e .tup
    obtain ⟨w, hw, rw⟩ := rps_at h2 h
    rw [r2.int]
    exact .inl (.inr (.inl ⟨a, vs, i, w, rfl, rfl, h1, hw, q I H w (Gr.refl e) rw⟩))
  | kt ds =>
    obtain ⟨i, rfl, h⟩ := atD_some hf
    obtain ⟨a, vs, rfl, _, h1, h2⟩ := r1.t e .kt
    obtain ⟨w, hw, rw⟩ := rps_at h2 h
    rw [r2.int]
    exact .inl (.inr (.inl ⟨a, vs, i, w, rfl, rfl, h1, hw, q I H w (Gr.refl e) rw⟩))
  | str z =>
    obtain ⟨i, c, rfl, hl, hc, rfl⟩ := atS_some hf
    rw [r1.str, r2.int]
    exact .inl (.inr (.inr ⟨z, i, c, rfl, rfl, hl, hc, q I H _ (Gr.refl e) (.str _)⟩))
  | dic ks ds =>
    obtain ⟨o, h, hd⟩ := Option.bind_eq_some_iff.mp hf
    obtain rfl : o = some d := hd
    obtain ⟨a, w, rfl, h1, _, h2, h3⟩ := dget_v e r1 r2 h
    obtain ⟨w', rfl, rw⟩ := h2 d rfl
    exact .inr ⟨a, w', rfl, h1, q I H w' (Gr.refl e) rw⟩
  | dit ks ds =>
    obtain ⟨o, h, hd⟩ := Option.bind_eq_some_iff.mp hf
    obtain rfl : o = some d := hd
    obtain ⟨a, w, rfl, h1, _, h2, h3⟩ := dget_v e r1 r2 h
    obtain ⟨w', rfl, rw⟩ := h2 d rfl
    exact .inr ⟨a, w', rfl, h1, q I H w' (Gr.refl e) rw⟩
  | _ => cases hf
theorem se_ix (h1 : SE K W ta a) (h2 : SE K W tb b) : SE K W (tOp (uIx K) ta tb) (sIx a b) := fun Γ σ m A Q p => by
  refine h1.step A p fun x Γ1 m1 v n1 A1 r1 p1 => h2.step A1 p1 fun y Γ2 m2 w n2 A2 r2 p2 => ?_
  have r1' := RU.mono n2 r1
  cases x with
  | d x =>
    obtain ⟨d, hd, q⟩ := p2.o A2
    obtain ⟨y', hy, hd⟩ := Option.bind_eq_some_iff.mp hd
    exact bs_ix x y' d hd m2.I m2.H v w A2.ih (A2.dr r1' rfl) (A2.dr r2 hy) Q q
  | lc j =>
    dsimp only at p2
    cases hj : Γ2.mm[j]? with
    | none => rw [hj] at p2; exact p2.elim
    | some c =>
      rw [hj] at p2
      cases c with
      | p x =>
        obtain ⟨d, hd, q⟩ := Post.o A2 p2
        obtain ⟨y', hy, hd⟩ := Option.bind_eq_some_iff.mp hd
        exact bs_ix x y' d hd m2.I m2.H v w A2.ih (A2.dr r1' (by simp only [S.dr, hj])) (A2.dr r2 hy) Q q
      | n us =>
        dsimp only at p2
        split at p2
        · rename_i i
          cases ha : atI us i with
          | none => rw [ha] at p2; exact p2.elim
          | some u =>
            rw [ha] at p2
            obtain ⟨_, vs, h3, h4⟩ := A2.mm j _ hj
            obtain ⟨z, hz, rz⟩ := rus_at h4 ha
            cases r1' with
            | lc _ =>
              cases r2 with
              | d r2 =>
                cases r2
                exact .inl (.inl ⟨_, vs, i, z, rfl, rfl, .inl (.inl h3), hz, p2 m2 z .refl A2 rz⟩)
        · exact p2.elim
      | gone => exact p2.elim
end
end S

namespace S
open PySem PySem.Spec L2
open G (Ex Gr ex_l ex_t ExnAt exx exx_ok uAdd uMul uEq uNe uSl uLen uLt uLe uGt uGe rJoin rLo rTo rLn rLnD XiC rIsX call_isX)
/-! ### slices -/
def cutD (xs : List D) (lo hi : Option Int) : List D := (xs.drop (HT.sIx xs.length 0 lo)).take (HT.sIx xs.length xs.length hi - HT.sIx xs.length 0 lo)
def slD (x : D) (lo hi : Option Int) : Option D := match x with
  | .lst ds => some (.lst (cutD ds lo hi))
  | .fl ds => some (.lst (cutD ds lo hi))
  | .tup ds => some (.tup (cutD ds lo hi))
  | .kt ds => if HT.sIx ds.length 0 lo = 0 ∧ HT.sIx ds.length ds.length hi = ds.length then none else some (.tup (cutD ds lo hi))
  | .str z => if z.length ≤ sizeLine then some (.str (cutS z lo hi)) else none
  | _ => none
def slL (x : D) (lo hi : Option Int) : Option D := match x with
  | .lst ds => some (.lst (cutD ds lo hi))
  | .fl ds => some (.lst (cutD ds lo hi))
  | _ => none
section
variable {K : PySem.W.Frag}
theorem rps_cut {I : Hp} {vs : List V} {ds : List D} {lo hi : Option Int} (r : Rps K I vs ds) : Rps K I (cutV vs lo hi) (cutD ds lo hi) := by
  unfold cutV cutD
  rw [r.length]
  exact (r.drop _).take _
theorem sf_l : SlF K (uSl K) slL := fun x lo hi d hf I H u e r1 Q q => by
  cases x with
  | lst ds =>
    cases hf
    obtain ⟨a, vs, rfl, h1, h2⟩ := r1.l e .lst
    exact .inl ⟨a, vs, rfl, h1, fun p hp => q p _ hp (.lst (rps_cut h2))⟩
  | fl ds =>
    cases hf
    obtain ⟨a, vs, rfl, h1, h2⟩ := r1.l e .fl
    exact .inl ⟨a, vs, rfl, h1, fun p hp => q p _ hp (.lst (rps_cut h2))⟩
  | _ => cases hf
theorem ss_slD : SlS K (uSl K) slD := fun x lo hi d hf I H u e r1 Q q => by
  cases x with
  | lst ds => exact sf_l (.lst ds) lo hi d hf I H u e r1 Q (fresh_q e q)
  | fl ds => exact sf_l (.fl ds) lo hi d hf I H u e r1 Q (fresh_q e q)
  | tup ds =>
    cases hf
    obtain ⟨a, vs, rfl, i1, h1, h2⟩ := r1.tup e
    refine .inr (.inl ⟨a, vs, rfl, .inl (.inl h1), fun hw => ?_, fun _ p hp => ?_⟩)
    · have : cutD ds lo hi = ds := by
        unfold cutD
        rw [← h2.length, hw.1, hw.2, List.drop_zero, Nat.sub_zero, h2.length]
        exact List.take_length
      rw [this] at q
      exact q I H _ (Gr.refl e) (.tup i1 h2)
    · exact q _ _ _ (Gr.new e hp) (.tup upd_same ((rps_cut h2).mono (Ex.new (e.free hp))))
  | kt ds =>
    have hf : (if HT.sIx ds.length 0 lo = 0 ∧ HT.sIx ds.length ds.length hi = ds.length then none else some (D.tup (cutD ds lo hi))) = some d := hf
    split at hf
    · cases hf
    · rename_i hn
      cases hf
      obtain ⟨a, vs, rfl, i1, h1, h2⟩ := r1.t e .kt
      refine .inr (.inl ⟨a, vs, rfl, h1, fun hw => ?_, fun _ p hp => ?_⟩)
      · rw [h2.length] at hw; exact absurd hw hn
      · exact q _ _ _ (Gr.new e hp) (.tup upd_same ((rps_cut h2).mono (Ex.new (e.free hp))))
  | str z =>
    obtain ⟨hl, rfl⟩ := guard_eq hf
    rw [r1.str]
    exact .inr (.inr ⟨z, rfl, hl, q I H _ (Gr.refl e) (.str _)⟩)
  | _ => cases hf
/-! ### len -/
def lenD : List D → Option D
  | [.str z] => if z.length ≤ sizeLine then some (.int z.length) else none
  | [.lst ds] => some (.int ds.length)
  | [.fl ds] => some (.int ds.length)
  | [.tup ds] => some (.int ds.length)
  | [.kt ds] => some (.int ds.length)
  | [.dic ks ds] => some (.int ks.length)
  | _ => none
theorem rp1 {I H : Hp} {us : List V} {x : D} (r : RpLs K I H us [x]) : ∃ u, us = [u] ∧ RpL K I H u x := by
  cases r with
  | cons a b => cases b; exact ⟨_, rfl, a⟩
theorem rp2 {I H : Hp} {us : List V} {x y : D} (r : RpLs K I H us [x, y]) : ∃ u v, us = [u, v] ∧ RpL K I H u x ∧ RpL K I H v y := by
  cases r with
  | cons a b => obtain ⟨v, rfl, c⟩ := rp1 b; exact ⟨_, v, rfl, a, c⟩
theorem ca_len : CaS K (uLen K) lenD := fun xs d hf I H us e r Q q => by
  unfold lenD at hf
  split at hf
  · obtain ⟨hl, rfl⟩ := guard_eq hf
    obtain ⟨u, rfl, r1⟩ := rp1 r
    rw [r1.str]
    exact .inl ⟨_, _, rfl, ⟨hl, rfl⟩, q I H _ (Gr.refl e) (.int _)⟩
  · cases hf
    obtain ⟨u, rfl, r1⟩ := rp1 r
    obtain ⟨a, vs, rfl, h1, h2⟩ := r1.l e .lst
    exact .inl ⟨_, _, rfl, .inl ⟨vs, h1, h2.length.symm⟩, q I H _ (Gr.refl e) (.int _)⟩
  · cases hf
    obtain ⟨u, rfl, r1⟩ := rp1 r
    obtain ⟨a, vs, rfl, h1, h2⟩ := r1.l e .fl
    exact .inl ⟨_, _, rfl, .inl ⟨vs, h1, h2.length.symm⟩, q I H _ (Gr.refl e) (.int _)⟩
  · cases hf
    obtain ⟨u, rfl, r1⟩ := rp1 r
    obtain ⟨a, vs, rfl, _, h1, h2⟩ := r1.t e .tup
    exact .inl ⟨_, _, rfl, .inr ⟨vs, h1, h2.length.symm⟩, q I H _ (Gr.refl e) (.int _)⟩
  · cases hf
    obtain ⟨u, rfl, r1⟩ := rp1 r
    obtain ⟨a, vs, rfl, _, h1, h2⟩ := r1.t e .kt
    exact .inl ⟨_, _, rfl, .inr ⟨vs, h1, h2.length.symm⟩, q I H _ (Gr.refl e) (.int _)⟩
  · cases hf
    obtain ⟨u, rfl, r1⟩ := rp1 r
    obtain ⟨a, vs, rfl, h1, h2, h3⟩ := r1.dic e
    refine .inr ⟨_, _, rfl, h1, ?_⟩
    rw [List.length_zip, ← h2, Nat.min_self]
    exact q I H _ (Gr.refl e) (.int _)
  · cases hf
/-! ### isinstance -/
inductive Kd where
  | t (n : String) | o (n : String) | x (n : String)
  deriving DecidableEq
inductive Kc where
  | t (n : String) | c (n : String)
  deriving DecidableEq
def kdOf : D → Option Kd
  | .non => some (.t "NoneType")
  | .bl _ => some (.t "bool")
  | .int _ => some (.t "int")
  | .str _ => some (.t "str")
  | .lst _ => some (.t "list")
  | .fl _ => some (.t "list")
  | .tup _ => some (.t "tuple")
  | .kt _ => some (.t "tuple")
  | .dic _ _ => some (.t "dict")
  | .dit _ _ => some (.t "dict")
  | .obj n _ _ => some (.o n)
  | .exn n _ _ => some (.x n)
  | _ => none
def kcOf : D → Option Kc
  | .ty n => some (.t n)
  | .cl n => some (.c n)
  | _ => none
structure ObjC (K : PySem.W.Frag) (C : Addr) : Prop where
  cl : Cls K C
  ha : PySem.W.findIn K (.ref C) "__class__" = some (some (.builtin "object.__class__"))
  hn : PySem.W.specialIn K (.builtin "object.__class__") "__get__" = some (some (.builtin "getset_descriptor.__get__"))
  ht : PySem.W.takesIn K (.builtin "object.__class__") = some true
  hm : PySem.W.mroIn K C (.type "object") = some true
inductive KcV (K : PySem.W.Frag) : Kc → Value → Prop
  | t (n : String) : KcV K (.t n) (.type n)
  | c {n : String} {C : Addr} : clsA K n = some C → KcV K (.c n) (.ref C)
def KdOk (K : PySem.W.Frag) (a : Kd) (v : Value) (r : Bool) : Prop := match a with
  | .t n => PySem.W.kitOne K (.type n) v = some r
  | .o n => ∀ C, clsA K n = some C → ObjC K C ∧ PySem.W.kitOne K (.ref C) v = some r
  | .x n => ∀ C, clsA K n = some C → XiC K C ∧ PySem.W.kitOne K (.ref C) v = some r
/-- what isa tells holds in the text -/
def IsaOk (K : PySem.W.Frag) (isa : Kd → Kc → Option Bool) : Prop := ∀ a b r, isa a b = some r → ∀ v, KcV K b v → KdOk K a v r
def isa1 (isa : Kd → Kc → Option Bool) : Kd → Kc → Option Bool
  | .t x, .t y => kitB x y
  | a, b => isa a b
theorem isa1_ok {isa : Kd → Kc → Option Bool} (h : IsaOk K isa) : IsaOk K (isa1 isa) := fun a b r e v hv => by
  unfold isa1 at e
  split at e
  · cases hv; exact kit_ty e
  · exact h a b r e v hv
def uIsi (K : PySem.W.Frag) : List V → Hp → VK → Prop := fun xs H Q => rIsi K xs H Q ∨ (fun xs H Q => rIsiT K xs H Q ∨ rIsX K xs H Q) xs H Q
theorem k_isi {X : Cx} (K : PySem.W.Frag) (hK : X.K = K := by rfl) : CallR X (.builtin "isinstance") (uIsi K) := by subst hK; exact G.ca_or call_isi (G.ca_or call_isiT call_isX)
def anyO : List (Option Bool) → Option Bool
  | [] => some false
  | some b :: r => (anyO r).map fun c => b || c
  | none :: _ => none
def isiD (isa : Kd → Kc → Option Bool) : List D → Option D
  | [d, .tup cs] => (kdOf d).bind fun a => match a with
    | .t n => (anyO (cs.map fun c => match c with | .ty m => kitB n m | _ => none)).bind fun b => some (.bl b)
    | _ => none
  | [d, c] => (kdOf d).bind fun a => (kcOf c).bind fun k => (isa1 isa a k).bind fun b => some (.bl b)
  | _ => none
theorem tyx_t {I H : Hp} {v : V} {d : D} {n : String} (e : Ex I H) (r : RpL K I H v d) (h : kdOf d = some (.t n)) : TyX K H v (.type n) := by
  cases d with
  | non => cases h; rw [r.non]; exact .base .non
  | bl b => cases h; rw [r.bl]; exact .base (.bl b)
  | int b => cases h; rw [r.int]; exact .base (.int b)
  | str b => cases h; rw [r.str]; exact .base (.str b)
  | lst ds => cases h; obtain ⟨a, vs, rfl, h1, _⟩ := r.lst e; exact .base (.lst h1)
  | fl ds =>
    cases h
    obtain ⟨a, vs, rfl, h1, _⟩ := r.l e .fl
    rcases h1 with (a | ⟨o, a⟩) | ⟨o, its, n, h1, h2, _⟩
    · exact .base (.lst a)
    · exact .base (.frz a)
    · exact .kList h1 h2
  | tup ds => cases h; obtain ⟨a, vs, rfl, _, h1, _⟩ := r.tup e; exact .base (.tup h1)
  | kt ds =>
    cases h
    obtain ⟨a, vs, rfl, _, h1, _⟩ := r.t e .kt
    rcases h1 with (a | ⟨o, a⟩) | ⟨o, its, n, h1, h2, _⟩
    · exact .base (.tup a)
    · exact .fTuple a
    · exact .kTuple h1 h2
  | dic ks ds => cases h; obtain ⟨a, vs, rfl, h1, _⟩ := r.dic e; exact .base (.dK h1)
  | dit ks ds => cases h; obtain ⟨a, vs, rfl, h1, _⟩ := r.dit e; exact .base (.dT h1)
  | _ => cases h
theorem kc_v {I H : Hp} {v : V} {d : D} {k : Kc} (r : RpL K I H v d) (h : kcOf d = some k) : ∃ u, ClsV v u ∧ KcV K k u ∧ ∀ w, RelV v w → w = u := by
  cases d <;> first | (cases h; done) | skip
  · cases h; rw [r.ty]; exact ⟨_, .ty _, .t _, fun w hw => hw⟩
  · cases h
    obtain ⟨C, rfl, hc⟩ := r.cl
    exact ⟨_, .own C, .c hc, fun w hw => hw⟩
theorem isi_one {isa : Kd → Kc → Option Bool} (ok : IsaOk K isa) {d c : D} {a : Kd} {k : Kc} {b : Bool} {I H : Hp} {u v : V} (e : Ex I H) (r1 : RpL K I H u d) (r2 : RpL K I H v c) (h1 : kdOf d = some a) (h2 : kcOf c = some k) (h3 : isa1 isa a k = some b) {Q : VK} (q : Q (.bl b) H) : uIsi K [u, v] H Q := by
  obtain ⟨cv, hc, hk, hr⟩ := kc_v r2 h2
  have key := isa1_ok ok a k b h3 cv hk
  cases a with
  | t n => exact .inl ⟨u, v, _, cv, b, rfl, hc, tyx_t e r1 h1, key, q⟩
  | o n =>
    cases d <;> first | (cases h1; done) | skip
    cases h1
    obtain ⟨p, C, dx, vs, rfl, hC, hp, _, _⟩ := r1.obj e
    obtain ⟨oc, hk⟩ := key C hC
    exact .inl ⟨_, v, _, cv, b, rfl, hc, .base (.ins hp oc.cl oc.ha oc.hn oc.ht oc.hm), hk, q⟩
  | x n =>
    cases d <;> first | (cases h1; done) | skip
    cases h1
    obtain ⟨p, C, dx, vs, rfl, hC, hp, hd, _, _⟩ := r1.exn e
    obtain ⟨xc, hk⟩ := key C hC
    exact .inr (.inr ⟨p, C, dx, v, cv, b, _, rfl, hr, xc, hp, hd, hk, q⟩)
theorem anyO_kit {n : String} : ∀ {cs : List D} {vs : List V} {I : Hp} {b : Bool}, Rps K I vs cs → anyO (cs.map fun c => match c with | .ty m => kitB n m | _ => none) = some b → ∃ us, Paired ClsV vs us ∧ PySem.W.kitAny K (.type n) us = some b
  | [], _, _, _, .nil, h => by cases h; exact ⟨[], .nil, kitAny_nil⟩
  | c :: cs, _, I, b, .cons (v := v) r rs, h => by
    rw [List.map_cons] at h
    cases c with
    | ty m =>
      dsimp only at h
      cases hk : kitB n m with
      | none => rw [hk] at h; cases h
      | some k =>
        rw [hk] at h
        cases r
        obtain ⟨c, hc, rfl⟩ := Option.map_eq_some_iff.mp h
        obtain ⟨us, h1, h2⟩ := anyO_kit rs hc
        refine ⟨.type m :: us, .cons (.ty m) h1, kitAny_cons (kit_ty hk) (fun z => ?_) (fun z => by rw [z]; rfl)⟩
        rw [z]; exact h2
    | _ => cases h
theorem ca_isi {isa : Kd → Kc → Option Bool} (ok : IsaOk K isa) : CaS K (uIsi K) (isiD isa) := fun xs d hf I H us e r Q q => by
  unfold isiD at hf
  split at hf
  · rename_i d0 cs
    obtain ⟨a, h1, hf⟩ := Option.bind_eq_some_iff.mp hf
    cases a with
    | t n =>
      obtain ⟨b, h2, hf⟩ := Option.bind_eq_some_iff.mp hf
      cases hf
      obtain ⟨u, v, rfl, r1, r2⟩ := rp2 r
      obtain ⟨p, vs, rfl, _, h3, h4⟩ := r2.tup e
      obtain ⟨ws, h5, h6⟩ := anyO_kit h4 h2
      exact .inr (.inl ⟨u, p, vs, _, ws, b, rfl, h3, h5, tyx_t e r1 h1, h6, q I H _ (Gr.refl e) (.bl b)⟩)
    | _ => cases hf
  · obtain ⟨a, h1, hf⟩ := Option.bind_eq_some_iff.mp hf
    obtain ⟨k, h2, hf⟩ := Option.bind_eq_some_iff.mp hf
    obtain ⟨b, h3, hf⟩ := Option.bind_eq_some_iff.mp hf
    cases hf
    obtain ⟨u, v, rfl, r1, r2⟩ := rp2 r
    exact isi_one ok e r1 r2 h1 h2 h3 (q I H _ (Gr.refl e) (.bl b))
  · cases hf
/-! ### all, any, sum, max, min, abs, int, list, tuple -/
def boolsO : List D → Option (List Bool)
  | [] => some []
  | .bl b :: r => (boolsO r).map (b :: ·)
  | _ :: _ => none
def intsO : List D → Option (List Int)
  | [] => some []
  | .int b :: r => (intsO r).map (b :: ·)
  | _ :: _ => none
def strsO : List D → Option (List Str)
  | [] => some []
  | .str b :: r => (strsO r).map (b :: ·)
  | _ :: _ => none
@[simp] theorem bools_map (bs : List Bool) : boolsO (bs.map D.bl) = some bs := by induction bs with | nil => rfl | cons b bs ih => simp [boolsO, ih]
@[simp] theorem ints_map (bs : List Int) : intsO (bs.map D.int) = some bs := by induction bs with | nil => rfl | cons b bs ih => simp [intsO, ih]
@[simp] theorem strs_map (bs : List Str) : strsO (bs.map D.str) = some bs := by induction bs with | nil => rfl | cons b bs ih => simp [strsO, ih]
theorem boolsO_eq : ∀ {ds : List D} {bs : List Bool}, boolsO ds = some bs → ds = bs.map D.bl
  | [], _, h => by cases h; rfl
  | .bl b :: r, _, h => by
    obtain ⟨c, hc, rfl⟩ := Option.map_eq_some_iff.mp h
    rw [boolsO_eq hc]; rfl
theorem intsO_eq : ∀ {ds : List D} {bs : List Int}, intsO ds = some bs → ds = bs.map D.int
  | [], _, h => by cases h; rfl
  | .int b :: r, _, h => by
    obtain ⟨c, hc, rfl⟩ := Option.map_eq_some_iff.mp h
    rw [intsO_eq hc]; rfl
theorem strsO_eq : ∀ {ds : List D} {bs : List Str}, strsO ds = some bs → ds = bs.map D.str
  | [], _, h => by cases h; rfl
  | .str b :: r, _, h => by
    obtain ⟨c, hc, rfl⟩ := Option.map_eq_some_iff.mp h
    rw [strsO_eq hc]; rfl
def itemsL : D → Option (List D)
  | .lst ds => some ds
  | .fl ds => some ds
  | _ => none
theorem items_l {d : D} {ds : List D} (h : itemsL d = some ds) : LD d ds := by
  cases d <;> first | (cases h; done) | (cases h; exact .lst) | (cases h; exact .fl)
def allD : List D → Option D
  | [d] => (itemsL d).bind fun ds => (boolsO ds).bind fun bs => some (.bl (bs.all id))
  | _ => none
def anyD : List D → Option D
  | [d] => (itemsL d).bind fun ds => (boolsO ds).bind fun bs => some (.bl (bs.any id))
  | _ => none
theorem ca_all : CaS K (rAll K) allD := fun xs d hf I H us e r Q q => by
  unfold allD at hf
  split at hf
  · obtain ⟨ds, h1, hf⟩ := Option.bind_eq_some_iff.mp hf
    obtain ⟨bs, h2, hf⟩ := Option.bind_eq_some_iff.mp hf
    cases hf
    obtain ⟨u, rfl, r1⟩ := rp1 r
    obtain ⟨a, vs, rfl, h3, h4⟩ := r1.l e (items_l h1)
    rw [boolsO_eq h2] at h4
    rw [rps_bls h4] at h3
    exact ⟨a, bs, rfl, h3, q I H _ (Gr.refl e) (.bl _)⟩
  · cases hf
theorem ca_any : CaS K (rAny K) anyD := fun xs d hf I H us e r Q q => by
  unfold anyD at hf
  split at hf
  · obtain ⟨ds, h1, hf⟩ := Option.bind_eq_some_iff.mp hf
    obtain ⟨bs, h2, hf⟩ := Option.bind_eq_some_iff.mp hf
    cases hf
    obtain ⟨u, rfl, r1⟩ := rp1 r
    obtain ⟨a, vs, rfl, h3, h4⟩ := r1.l e (items_l h1)
    rw [boolsO_eq h2] at h4
    rw [rps_bls h4] at h3
    exact ⟨a, bs, rfl, h3, q I H _ (Gr.refl e) (.bl _)⟩
  · cases hf
def sumD : List D → Option D
  | [d] => (itemsL d).bind fun ds => (intsO ds).bind fun bs => some (.int bs.sum)
  | _ => none
theorem ca_sum : CaS K (rSum K) sumD := fun xs d hf I H us e r Q q => by
  unfold sumD at hf
  split at hf
  · obtain ⟨ds, h1, hf⟩ := Option.bind_eq_some_iff.mp hf
    obtain ⟨bs, h2, hf⟩ := Option.bind_eq_some_iff.mp hf
    cases hf
    obtain ⟨u, rfl, r1⟩ := rp1 r
    obtain ⟨a, vs, rfl, h3, h4⟩ := r1.l e (items_l h1)
    rw [intsO_eq h2] at h4
    rw [rps_ints h4] at h3
    exact ⟨a, bs, rfl, h3, q I H _ (Gr.refl e) (.int _)⟩
  · cases hf
def max2D : List D → Option D
  | [.int i, .int j] => some (.int (if j > i then j else i))
  | _ => none
def min2D : List D → Option D
  | [.int i, .int j] => some (.int (if j < i then j else i))
  | _ => none
theorem ca_max2 : CaS K (fun xs H Q => ∃ i j, xs = [.int i, .int j] ∧ Q (.int (if j > i then j else i)) H) max2D := fun xs d hf I H us e r Q q => by
  unfold max2D at hf
  split at hf
  · cases hf
    obtain ⟨u, v, rfl, r1, r2⟩ := rp2 r
    rw [r1.int, r2.int]
    exact ⟨_, _, rfl, q I H _ (Gr.refl e) (.int _)⟩
  · cases hf
theorem ca_min2 : CaS K (fun xs H Q => ∃ i j, xs = [.int i, .int j] ∧ Q (.int (if j < i then j else i)) H) min2D := fun xs d hf I H us e r Q q => by
  unfold min2D at hf
  split at hf
  · cases hf
    obtain ⟨u, v, rfl, r1, r2⟩ := rp2 r
    rw [r1.int, r2.int]
    exact ⟨_, _, rfl, q I H _ (Gr.refl e) (.int _)⟩
  · cases hf
def int1D : List D → Option D
  | [.int i] => some (.int i)
  | [.bl b] => some (.int (if b then 1 else 0))
  | _ => none
theorem ca_int1 : CaS K (fun xs H Q => (∃ i, xs = [.int i] ∧ Q (.int i) H) ∨ ∃ k, xs = [.bl k] ∧ Q (.int (if k then 1 else 0)) H) int1D := fun xs d hf I H us e r Q q => by
  unfold int1D at hf
  split at hf
  · cases hf
    obtain ⟨u, rfl, r1⟩ := rp1 r
    rw [r1.int]
    exact .inl ⟨_, rfl, q I H _ (Gr.refl e) (.int _)⟩
  · cases hf
    obtain ⟨u, rfl, r1⟩ := rp1 r
    rw [r1.bl]
    exact .inr ⟨_, rfl, q I H _ (Gr.refl e) (.int _)⟩
  · cases hf
def listD : List D → Option D
  | [.lst ds] => some (.lst ds)
  | [.fl ds] => some (.lst ds)
  | [.tup ds] => some (.lst ds)
  | [.kt ds] => some (.lst ds)
  | _ => none
theorem cf_list : CaF K (rLo K) listD := fun xs d hf I H us e r Q q => by
  unfold listD at hf
  split at hf
  · cases hf
    obtain ⟨u, rfl, r1⟩ := rp1 r
    obtain ⟨a, vs, rfl, h1, h2⟩ := r1.l e .lst
    exact ⟨a, vs, rfl, .inl h1, fun p hp => q p _ hp (.lst h2)⟩
  · cases hf
    obtain ⟨u, rfl, r1⟩ := rp1 r
    obtain ⟨a, vs, rfl, h1, h2⟩ := r1.l e .fl
    exact ⟨a, vs, rfl, .inl h1, fun p hp => q p _ hp (.lst h2)⟩
  · cases hf
    obtain ⟨u, rfl, r1⟩ := rp1 r
    obtain ⟨a, vs, rfl, _, h1, h2⟩ := r1.t e .tup
    exact ⟨a, vs, rfl, .inr h1, fun p hp => q p _ hp (.lst h2)⟩
  · cases hf
    obtain ⟨u, rfl, r1⟩ := rp1 r
    obtain ⟨a, vs, rfl, _, h1, h2⟩ := r1.t e .kt
    exact ⟨a, vs, rfl, .inr h1, fun p hp => q p _ hp (.lst h2)⟩
  · cases hf
def tupD : List D → Option D
  | [.lst ds] => some (.tup ds)
  | [.fl ds] => some (.tup ds)
  | [.tup ds] => some (.tup ds)
  | _ => none
theorem ca_tup : CaS K (rTo K) tupD := fun xs d hf I H us e r Q q => by
  unfold tupD at hf
  split at hf
  · cases hf
    obtain ⟨u, rfl, r1⟩ := rp1 r
    obtain ⟨a, vs, rfl, h1, h2⟩ := r1.l e .lst
    exact ⟨a, vs, rfl, .inl ⟨h1, fun p hp => q _ _ _ (Gr.new e hp) (.tup upd_same (h2.mono (Ex.new (e.free hp))))⟩⟩
  · cases hf
    obtain ⟨u, rfl, r1⟩ := rp1 r
    obtain ⟨a, vs, rfl, h1, h2⟩ := r1.l e .fl
    exact ⟨a, vs, rfl, .inl ⟨h1, fun p hp => q _ _ _ (Gr.new e hp) (.tup upd_same (h2.mono (Ex.new (e.free hp))))⟩⟩
  · cases hf
    obtain ⟨u, rfl, r1⟩ := rp1 r
    obtain ⟨a, vs, rfl, i1, h1, h2⟩ := r1.tup e
    exact ⟨a, vs, rfl, .inr ⟨.inl (.inl h1), q I H _ (Gr.refl e) (.tup i1 h2)⟩⟩
  · cases hf
end
end S

namespace S
open PySem PySem.Spec L2 PyProof.Rows
open G (Ex Gr ex_l ex_t ExnAt exx exx_ok uAdd uMul uEq uNe uSl uLen uLt uLe uGt uGe rJoin rLo rTo rLn rLnD XiC rIsX call_isX)
/-! ### methods of texts -/
def sM1 (f : D → D → Option D) (a b : Sg → Rs U) : Sg → Rs U := fun Γ => (a Γ).bind fun x Γ1 => match x with
  | .d (.str s) => (b Γ1).bind fun y Γ2 => ofO ((dr Γ2.mm y).bind fun y => f (.str s) y) Γ2
  | _ => .st
def sM1A (f : D → D → Option D) (a b : Sg → Rs U) : Sg → Rs U := fun Γ => (a Γ).bind fun x Γ1 => match x with
  | .d (.str s) => (b Γ1).bind fun y Γ2 => ofA ((dr Γ2.mm y).bind fun y => f (.str s) y) Γ2
  | _ => .st
def sM0 (f : D → Option D) (a : Sg → Rs U) : Sg → Rs U := fun Γ => (a Γ).bind fun x Γ1 => match x with
  | .d (.str s) => ofO (f (.str s)) Γ1
  | _ => .st
section
variable {K : PySem.W.Frag} {W : WX} {ta tb te : TE} {a b e : Sg → Rs U}
theorem se_m1 {r : V → List V → Hp → VK → Prop} {f : D → D → Option D} (hr : BinS K (fun x y H Q => r x [y] H Q) f) (h1 : SE K W ta a) (h2 : SE K W tb b) : SE K W (tM1 r ta tb) (sM1 f a b) := fun Γ σ m A Q p => by
  refine h1.step A p fun x Γ1 m1 v n1 A1 r1 p1 => ?_
  split at p1
  · rename_i s
    have r1' : RU K m1.I m1.as Γ1.mm.length v (.d (.str s)) := r1
    cases r1' with
    | d r0 =>
      cases r0
      refine ⟨⟨s, rfl⟩, h2.step A1 p1 fun y Γ2 m2 w n2 A2 r2 p2 => ?_⟩
      obtain ⟨d, hd, q⟩ := p2.o A2
      obtain ⟨y', hy, hd⟩ := Option.bind_eq_some_iff.mp hd
      exact hr (.str s) y' d hd m2.I m2.H _ w A2.ih (.p (.str s)) (A2.dr r2 hy) Q q
  · exact p1.elim
theorem se_m1A {r : V → List V → Hp → VK → Prop} {f : D → D → Option D} (hr : BinF K (fun x y H Q => r x [y] H Q) f) (h1 : SE K W ta a) (h2 : SE K W tb b) : SE K W (tM1 r ta tb) (sM1A f a b) := fun Γ σ m A Q p => by
  refine h1.step A p fun x Γ1 m1 v n1 A1 r1 p1 => ?_
  split at p1
  · rename_i s
    have r1' : RU K m1.I m1.as Γ1.mm.length v (.d (.str s)) := r1
    cases r1' with
    | d r0 =>
      cases r0
      refine ⟨⟨s, rfl⟩, h2.step A1 p1 fun y Γ2 m2 w n2 A2 r2 p2 => ?_⟩
      obtain ⟨d, hd, q⟩ := p2.a A2
      obtain ⟨y', hy, hd⟩ := Option.bind_eq_some_iff.mp hd
      exact hr (.str s) y' d hd m2.I m2.H _ w A2.ih (.p (.str s)) (A2.dr r2 hy) Q q
  · exact p1.elim
theorem se_m0 {r : V → List V → Hp → VK → Prop} {f : D → Option D} (hr : UnS K (fun x H Q => r x [] H Q) f) (h1 : SE K W ta a) : SE K W (tM0 r ta) (sM0 f a) := fun Γ σ m A Q p => by
  refine h1.step A p fun x Γ1 m1 v n1 A1 r1 p1 => ?_
  split at p1
  · rename_i s
    have r1' : RU K m1.I m1.as Γ1.mm.length v (.d (.str s)) := r1
    cases r1' with
    | d r0 =>
      cases r0
      obtain ⟨d, hd, q⟩ := p1.o A1
      exact ⟨⟨s, rfl⟩, hr (.str s) d hd m1.I m1.H _ A1.ih (.p (.str s)) Q q⟩
  · exact p1.elim
def itemsS : D → Option (List D)
  | .lst ds => some ds
  | .fl ds => some ds
  | .tup ds => some ds
  | .kt ds => some ds
  | _ => none
def sumLen (ys : List Str) : Nat := (ys.map (·.length)).sum
def joinD (x y : D) : Option D := match x with
  | .str a => (itemsS y).bind fun ds => (strsO ds).bind fun ys => if sumLen ys + ys.length * a.length ≤ 16777216 then some (.str (Txt.join a ys)) else none
  | _ => none
theorem bs_join : BinS K (fun x y H Q => rJoin K x [y] H Q) joinD := fun x y d hf I H u v e r1 r2 Q q => by
  cases x <;> first | (cases hf; done) | skip
  rename_i a
  obtain ⟨ds, h1, hf⟩ := Option.bind_eq_some_iff.mp hf
  obtain ⟨ys, h2, hf⟩ := Option.bind_eq_some_iff.mp hf
  obtain ⟨hl, rfl⟩ := guard_eq hf
  rw [r1.str]
  have es := strsO_eq h2
  subst es
  cases y <;> first | (cases h1; done) | skip
  · cases h1
    obtain ⟨p, vs, rfl, h3, h4⟩ := r2.l e .lst
    rw [rps_strs h4] at h3
    exact ⟨a, p, ys, rfl, rfl, .inl h3, hl, q I H _ (Gr.refl e) (.str _)⟩
  · cases h1
    obtain ⟨p, vs, rfl, _, h3, h4⟩ := r2.t e .tup
    rw [rps_strs h4] at h3
    exact ⟨a, p, ys, rfl, rfl, .inr h3, hl, q I H _ (Gr.refl e) (.str _)⟩
  · cases h1
    obtain ⟨p, vs, rfl, h3, h4⟩ := r2.l e .fl
    rw [rps_strs h4] at h3
    exact ⟨a, p, ys, rfl, rfl, .inl h3, hl, q I H _ (Gr.refl e) (.str _)⟩
  · cases h1
    obtain ⟨p, vs, rfl, _, h3, h4⟩ := r2.t e .kt
    rw [rps_strs h4] at h3
    exact ⟨a, p, ys, rfl, rfl, .inr h3, hl, q I H _ (Gr.refl e) (.str _)⟩
def splitD (x y : D) : Option D := match x, y with
  | .str a, .str b => if (b.length == 0) = false ∧ a.length + 2 ≤ sizeLine then some (.lst ((Txt.split a b).map D.str)) else none
  | _, _ => none
theorem bf_split : BinF K (fun x y H Q => ∃ a b, x = .str a ∧ [y] = [.str b] ∧ (b.length == 0) = false ∧ a.length + 2 ≤ sizeLine ∧ rNewStrs (Txt.split a b) H Q) splitD := fun x y d hf I H u v e r1 r2 Q q => by
  unfold splitD at hf
  split at hf
  · obtain ⟨hl, rfl⟩ := guard_eq hf
    rw [r1.str, r2.str]
    exact ⟨_, _, rfl, rfl, hl.1, hl.2, fun p hp => q p _ hp (.lst rps_of_strs)⟩
  · cases hf
/-! ### sorted -/
def leS (a b : Str) : Bool := !ltCps b.cps.toList a.cps.toList
def insS (x : Str) : List Str → List Str
  | [] => [x]
  | y :: r => if leS x y then x :: y :: r else y :: insS x r
def sortS (xs : List Str) : List Str := xs.foldr insS []
theorem ltCps_irr : ∀ a : List Nat, ltCps a a = false
  | [] => rfl
  | x :: a => by simp [ltCps, ltCps_irr a]
theorem ltCps_tri : ∀ a b : List Nat, ltCps a b = false → ltCps b a = false → a = b
  | [], [], _, _ => rfl
  | [], _ :: _, h, _ => by simp [ltCps] at h
  | _ :: _, [], _, h => by simp [ltCps] at h
  | x :: a, y :: b, h1, h2 => by
    simp [ltCps] at h1 h2
    have : x = y := by omega
    subst this
    rw [ltCps_tri a b (by simpa using h1) (by simpa using h2)]
theorem ltCps_tr : ∀ a b c : List Nat, ltCps b a = false → ltCps c b = false → ltCps c a = false
  | a, b, [], h1, h2 => by
    cases a with
    | nil => rfl
    | cons x a =>
      cases b with
      | nil => simp [ltCps] at h1
      | cons y b => simp [ltCps] at h2
  | [], b, z :: c, h1, h2 => by simp [ltCps]
  | x :: a, [], z :: c, h1, h2 => by simp [ltCps] at h1
  | x :: a, y :: b, z :: c, h1, h2 => by
    simp only [ltCps, Bool.or_eq_false_iff, decide_eq_false_iff_not, Bool.and_eq_false_iff, beq_eq_false_iff_ne] at h1 h2 ⊢
    refine ⟨by omega, ?_⟩
    by_cases e : z = x
    · right
      have e1 : y = x := by omega
      have e2 : z = y := by omega
      exact ltCps_tr a b c (h1.2.resolve_left (fun z => z e1)) (h2.2.resolve_left fun z => z e2)
    · exact .inl e
theorem leS_total (a b : Str) : leS a b = true ∨ leS b a = true := by
  unfold leS
  cases h : ltCps b.cps.toList a.cps.toList with
  | false => exact .inl rfl
  | true =>
    right
    cases h2 : ltCps a.cps.toList b.cps.toList with
    | false => rfl
    | true =>
      have : ∀ a b : List Nat, ltCps b a = true → ltCps a b = true → False := by
        intro a
        induction a with
        | nil => intro b h; cases b <;> simp [ltCps] at h
        | cons x a ih =>
          intro b h1 h2
          cases b with
          | nil => simp [ltCps] at h2
          | cons y b =>
            simp [ltCps] at h1 h2
            rcases h1 with h1 | ⟨rfl, h1⟩
            · rcases h2 with h2 | ⟨rfl, h2⟩
              · omega
              · omega
            · rcases h2 with h2 | ⟨_, h2⟩
              · omega
              · exact ih b h1 h2
      exact absurd (this _ _ h h2) id
def Rise (l : List Str) : Prop := l.Pairwise fun a b => leS a b = true
theorem leS_tr {a b c : Str} (h1 : leS a b = true) (h2 : leS b c = true) : leS a c = true := by
  unfold leS at h1 h2 ⊢
  rw [ltCps_tr _ b.cps.toList _ (by simpa using h1) (by simpa using h2)]; rfl
theorem leS_anti {a b : Str} (h1 : leS a b = true) (h2 : leS b a = true) : a = b := by
  unfold leS at h1 h2
  have := ltCps_tri a.cps.toList b.cps.toList (by simpa using h2) (by simpa using h1)
  obtain ⟨a⟩ := a; obtain ⟨b⟩ := b
  have e : a = b := Array.toList_inj.mp this
  rw [e]
theorem insS_perm (x : Str) : ∀ l, (insS x l).Perm (x :: l)
  | [] => .refl _
  | y :: r => by
    unfold insS
    split
    · exact .refl _
    · exact ((insS_perm x r).cons y).trans (.swap ..)
theorem insS_rise (x : Str) : ∀ {l}, Rise l → Rise (insS x l)
  | [], _ => by simp [insS, Rise]
  | y :: r, h => by
    unfold insS
    have hp := List.pairwise_cons.mp h
    split
    · rename_i hx
      refine List.pairwise_cons.mpr ⟨fun z hz => ?_, h⟩
      rcases List.mem_cons.mp hz with rfl | hz
      · exact hx
      · exact leS_tr hx (hp.1 z hz)
    · rename_i hx
      have hy : leS y x = true := (leS_total x y).resolve_left hx
      refine List.pairwise_cons.mpr ⟨fun z hz => ?_, insS_rise x hp.2⟩
      rcases List.mem_cons.mp ((insS_perm x r).mem_iff.mp hz) with rfl | hz
      · exact hy
      · exact hp.1 z hz
theorem sortS_perm : ∀ l, (sortS l).Perm l
  | [] => .refl _
  | x :: l => (insS_perm x _).trans ((sortS_perm l).cons x)
theorem sortS_rise : ∀ l, Rise (sortS l)
  | [] => List.Pairwise.nil
  | x :: l => insS_rise x (sortS_rise l)
theorem rising_rise : ∀ {l : List Str} {x : Str}, risingS x l = true → Rise (x :: l)
  | [], _, _ => by simp [Rise]
  | y :: r, x, h => by
    unfold risingS at h
    rw [Bool.and_eq_true] at h
    have ih := rising_rise h.2
    refine List.pairwise_cons.mpr ⟨fun z hz => ?_, ih⟩
    rcases List.mem_cons.mp hz with rfl | hz
    · exact h.1
    · exact leS_tr h.1 ((List.pairwise_cons.mp ih).1 z hz)
theorem sorted_rise {l : List Str} (h : sortedS l = true) : Rise l := by
  cases l with
  | nil => exact List.Pairwise.nil
  | cons x r => exact rising_rise h
theorem rise_unique {l l' : List Str} (p : l.Perm l') (h : Rise l) (h' : Rise l') : l = l' := p.eq_of_pairwise (fun a b _ _ h1 h2 => leS_anti h1 h2) h h'
theorem sorted_is {l ys : List Str} (p : ys.Perm l) (h : sortedS ys = true) : ys = sortS l := rise_unique (p.trans (sortS_perm l).symm) (sorted_rise h) (sortS_rise l)
def keyStrs : List Key → Option (List Str)
  | [] => some []
  | .inr s :: r => (keyStrs r).map (s :: ·)
  | .inl _ :: _ => none
theorem keyStrs_eq : ∀ {ks : List Key} {ss : List Str}, keyStrs ks = some ss → ks = ss.map Sum.inr
  | [], _, h => by cases h; rfl
  | .inr s :: r, _, h => by
    obtain ⟨c, hc, rfl⟩ := Option.map_eq_some_iff.mp h
    rw [keyStrs_eq hc]; rfl
def rSortU (K : PySem.W.Frag) : List V → Hp → VK → Prop := fun xs H Q => rSortedS K xs H Q ∨ (∃ (a : Addr) (kvs : List (Key × V)) (ks : List Str), xs = [.ref a] ∧ Rd H a (.dK kvs) ∧ kvs.map (·.1) = ks.map Sum.inr ∧ ks.length < 64 ∧
    ∀ ys p, ys.Perm ks → sortedS ys = true → H p = none → Q (.ref p) (upd H p (.lst (ys.map V.str))))
theorem k_sorted {X : Cx} (K : PySem.W.Frag) (hc : X.calm = true) (hK : X.K = K := by rfl) : CallR X (.builtin "sorted") (rSortU K) := by subst hK; exact G.ca_or cr_sortedS (call_sortedD hc)
def sortedD : List D → Option D
  | [.dic ks ds] => (keyStrs ks).bind fun ss => if ss.length < 64 then some (.lst ((sortS ss).map D.str)) else none
  | [d] => (itemsL d).bind fun ds => (strsO ds).bind fun ss => if ss.length < 64 then some (.lst ((sortS ss).map D.str)) else none
  | _ => none
theorem cf_sorted : CaF K (rSortU K) sortedD := fun xs d hf I H us e r Q q => by
  unfold sortedD at hf
  split at hf
  · obtain ⟨ss, h1, hf⟩ := Option.bind_eq_some_iff.mp hf
    obtain ⟨hl, rfl⟩ := guard_eq hf
    obtain ⟨u, rfl, r1⟩ := rp1 r
    obtain ⟨a, vs, rfl, h2, h3, h4⟩ := r1.dic e
    refine .inr ⟨a, _, ss, rfl, .inl h2, ?_, hl, fun ys p hp hs hn => ?_⟩
    · rw [List.map_fst_zip (by omega)]; exact keyStrs_eq h1
    · rw [sorted_is hp hs]; exact q p _ hn (.lst rps_of_strs)
  · obtain ⟨ds, h1, hf⟩ := Option.bind_eq_some_iff.mp hf
    obtain ⟨ss, h2, hf⟩ := Option.bind_eq_some_iff.mp hf
    obtain ⟨hl, rfl⟩ := guard_eq hf
    obtain ⟨u, rfl, r1⟩ := rp1 r
    obtain ⟨a, vs, rfl, h3, h4⟩ := r1.l e (items_l h1)
    rw [strsO_eq h2] at h4
    rw [rps_strs h4] at h3
    refine .inl ⟨a, ss, rfl, h3, hl, fun ys p hp hs hn => ?_⟩
    rw [sorted_is hp hs]; exact q p _ hn (.lst rps_of_strs)
  · cases hf
end
/-! ### sources -/
def signs (z : Str) : List D := z.cps.toList.map fun c => .str ⟨#[c]⟩
def itU : D → Option (List D)
  | .lst ds => some ds
  | .fl ds => some ds
  | .tup ds => some ds
  | .kt ds => some ds
  | .str z => some (signs z)
  | _ => none
def iU (a : Sg → Rs U) : Sg → Rs (List D) := fun Γ => (a Γ).bind fun u Γ1 => match (pu u).bind itU with
  | some ds => .ok ds Γ1
  | none => .st
section
variable {K : PySem.W.Frag} {W : WX} {te : TE} {e : Sg → Rs U}
theorem isw_at {I : Hp} {J : It} {vs : List V} {ds : List D} {Gc : Hp → Prop} (w : Walk J vs.length Gc (YAt vs)) (hg : ∀ I1 H1, Ex I I1 → Ex I1 H1 → Gc H1) (r : Rps K I vs ds) : IsW K I J ds :=
  ⟨Gc, YAt vs, by rw [← r.length]; exact w, hg, fun i H x H' I1 _ y e e1 => by
    obtain ⟨rfl, hx⟩ := y
    obtain ⟨d, hd, rx⟩ := r.getV hx
    exact ⟨I1, d, Gr.refl e1, hd, rx.mono e⟩⟩
theorem rp_l {I : Hp} {v : V} {d : D} {ds : List D} (r : Rp K I v d) (h : LD d ds) : ∃ a vs, v = .ref a ∧ SqL K I a vs ∧ Rps K I vs ds := by
  cases h with
  | lst => cases r with | lst a b => exact ⟨_, _, rfl, .inl (.inl a), b⟩
  | fl => cases r with | fl a b => exact ⟨_, _, rfl, a, b⟩
theorem rp_t {I : Hp} {v : V} {d : D} {ds : List D} (r : Rp K I v d) (h : LT d ds) : ∃ a vs, v = .ref a ∧ SqT K I a vs ∧ Rps K I vs ds := by
  cases h with
  | tup => cases r with | tup a b => exact ⟨_, _, rfl, .inl (.inl a), b⟩
  | kt => cases r with | kt a b => exact ⟨_, _, rfl, a, b⟩
theorem isw_str {I : Hp} {z : Str} : IsW K I (Its z) (signs z) := by
  refine ⟨fun _ => True, _, by rw [signs, List.length_map, Array.length_toList]; exact walk_str, fun _ _ _ _ => trivial, ?_⟩
  rintro i H x H' I2 hi ⟨rfl, c, hc, rfl⟩ e1 e2
  refine ⟨I2, .str ⟨#[c]⟩, Gr.refl e2, ?_, .str _⟩
  rw [signs, List.getElem?_map, Array.getElem?_toList, hc]
  rfl
theorem si_u (h : SE K W te e) : SI K W (fun σ H R => iList K te σ H R ∨ (fun σ H R => iTup K te σ H R ∨ iStr te σ H R) σ H R) (iU e) := fun Γ σ m A Q p => by
  -- which way is told by the shadow
  cases he : e Γ with
  | st => simp only [iU, he, Rs.bind_st] at p; exact p.elim
  | ex x Γ1 =>
    simp only [iU, he, Rs.bind_ex] at p
    refine .inl (h Γ σ m A _ ?_)
    rw [he]; exact p
  | ok u Γ1 =>
    simp only [iU, he, Rs.bind_ok] at p
    cases hu : (pu u).bind itU with
    | none => rw [hu] at p; exact p.elim
    | some ds =>
      rw [hu] at p
      obtain ⟨d, h1, h2⟩ := Option.bind_eq_some_iff.mp hu
      have run : ∀ {R : V → Hp → Prop}, (∀ m1 v, Nx m Γ.mm m1 Γ1.mm → At K σ m1 Γ1 → Rp K m1.I v d → R v m1.H) → te σ m.H R := fun {R} k => h Γ σ m A R (by
        rw [he]; exact fun m1 v nx A1 r => k m1 v nx A1 (RU.pu r h1))
      have lists : ∀ ds', LD d ds' → ds' = ds → (iList K te σ m.H Q ∨ (iTup K te σ m.H Q ∨ iStr te σ m.H Q)) := fun ds' hl e => by
        subst e
        refine .inl (run fun m1 v nx A1 r => ?_)
        obtain ⟨a, vs, rfl, hs, hr⟩ := rp_l r hl
        exact ⟨_, rfl, ⟨_, ex_l A1.ih hs⟩, p m1 _ nx A1 (isw_at walk_list (fun I2 H2 e1 e2 => ex_l (e1.trans e2) hs) hr)⟩
      have tups : ∀ ds', LT d ds' → ds' = ds → (iList K te σ m.H Q ∨ (iTup K te σ m.H Q ∨ iStr te σ m.H Q)) := fun ds' hl e => by
        subst e
        refine .inr (.inl (run fun m1 v nx A1 r => ?_))
        obtain ⟨a, vs, rfl, hs, hr⟩ := rp_t r hl
        exact ⟨_, rfl, ⟨_, ex_t A1.ih hs⟩, p m1 _ nx A1 (isw_at walk_tup (fun I2 H2 e1 e2 => ex_t (e1.trans e2) hs) hr)⟩
      cases d <;> first | (cases h2; done) | skip
      · cases h2
        refine .inr (.inr (run fun m1 v nx A1 r => ?_))
        cases r
        exact ⟨_, rfl, p m1 _ nx A1 isw_str⟩
      · cases h2; exact lists _ .lst rfl
      · cases h2; exact tups _ .tup rfl
      · cases h2; exact lists _ .fl rfl
      · cases h2; exact tups _ .kt rfl
theorem isw_rng {I : Hp} {lo : Int} {n : Nat} : IsW K I (Itr lo n) ((List.range n).map fun (i : Nat) => D.int (lo + (i : Int))) := by
  refine ⟨fun _ => True, _, by rw [List.length_map, List.length_range]; exact walk_range, fun _ _ _ _ => trivial, ?_⟩
  rintro i H x H' I2 hi ⟨rfl, rfl⟩ e1 e2
  rw [List.length_map, List.length_range] at hi
  refine ⟨I2, .int (lo + i), Gr.refl e2, ?_, .int _⟩
  rw [List.getElem?_map, List.getElem?_range hi]
  rfl
def rng1 : List D → Option (List D)
  | [.int n] => if -(2 ^ 62) ≤ n ∧ n < 2 ^ 62 then some ((List.range n.toNat).map fun (i : Nat) => D.int (i : Int)) else none
  | _ => none
def rng2 : List D → Option (List D)
  | [.int lo, .int n] => if -(2 ^ 62) ≤ lo ∧ lo < 2 ^ 62 ∧ -(2 ^ 62) ≤ n ∧ n < 2 ^ 62 then some ((List.range (n - lo).toNat).map fun (i : Nat) => D.int (lo + (i : Int))) else none
  | _ => none
/-- down, a step of -1 -/
def rng3 : List D → Option (List D)
  | [.int i, .int j, .int c] => if c = -1 ∧ -(2 ^ 62) ≤ i ∧ i < 2 ^ 62 ∧ -(2 ^ 62) ≤ j ∧ j < 2 ^ 62 then some ((List.range (i - j).toNat).map fun (k : Nat) => D.int (i + (k : Int) * -1)) else none
  | _ => none
def iCa (f : List D → Option (List D)) (a : Sg → Rs (List U)) : Sg → Rs (List D) := fun Γ => (a Γ).bind fun us Γ1 => match (pus us).bind f with
  | some ds => .ok ds Γ1
  | none => .st
theorem Post.w {Γ : Sg} {σ : L2.St} {m : Wd} {o : Option (List D)} {Q : It → Hp → Prop} (A : At K σ m Γ) (p : Post K W σ m Γ.mm (rW K) (match o with | some ds => Rs.ok ds Γ | none => .st) Q) : ∃ ds, o = some ds ∧ ∀ J, IsW K m.I J ds → Q J m.H := by
  cases o with
  | none => exact p.elim
  | some ds => exact ⟨ds, rfl, fun J hw => p m J .refl A hw⟩
variable {ta : TA} {s : Sg → Rs (List U)}
theorem rpsl1 {I : Hp} {vs : List V} {x : D} (r : Rps K I vs [x]) : ∃ v, vs = [v] ∧ Rp K I v x := by
  cases r with
  | cons a b => cases b; exact ⟨_, rfl, a⟩
theorem rpsl2 {I : Hp} {vs : List V} {x y : D} (r : Rps K I vs [x, y]) : ∃ v w, vs = [v, w] ∧ Rp K I v x ∧ Rp K I w y := by
  cases r with
  | cons a b => obtain ⟨w, rfl, c⟩ := rpsl1 b; exact ⟨_, w, rfl, a, c⟩
theorem rpsl3 {I : Hp} {vs : List V} {x y z : D} (r : Rps K I vs [x, y, z]) : ∃ v w u, vs = [v, w, u] ∧ Rp K I v x ∧ Rp K I w y ∧ Rp K I u z := by
  cases r with
  | cons a b => obtain ⟨w, u, rfl, c⟩ := rpsl2 b; exact ⟨_, w, u, rfl, a, c⟩
theorem si_rng1 (h : SA K W ta s) : SI K W (iRng1 ta) (iCa rng1 s) := fun Γ σ m A Q p => by
  refine h.step A p fun us Γ1 m1 vs n1 A1 r1 p1 => ?_
  obtain ⟨ds, hd, q⟩ := Post.w A1 p1
  obtain ⟨xs, h1, hd⟩ := Option.bind_eq_some_iff.mp hd
  have r := RUs.pu r1 h1
  unfold rng1 at hd
  split at hd
  · obtain ⟨hl, rfl⟩ := guard_eq hd
    obtain ⟨v, rfl, rv⟩ := rpsl1 r
    cases rv
    refine ⟨_, rfl, hl.1, hl.2, q _ ?_⟩
    have h0 := fun n => isw_rng (K := K) (I := m1.I) (lo := 0) (n := n)
    simpa using h0 _
  · cases hd
theorem si_rng2 (h : SA K W ta s) : SI K W (iRng2 ta) (iCa rng2 s) := fun Γ σ m A Q p => by
  refine h.step A p fun us Γ1 m1 vs n1 A1 r1 p1 => ?_
  obtain ⟨ds, hd, q⟩ := Post.w A1 p1
  obtain ⟨xs, h1, hd⟩ := Option.bind_eq_some_iff.mp hd
  have r := RUs.pu r1 h1
  unfold rng2 at hd
  split at hd
  · obtain ⟨hl, rfl⟩ := guard_eq hd
    obtain ⟨v, w, rfl, rv, rw⟩ := rpsl2 r
    cases rv; cases rw
    exact ⟨_, _, rfl, hl, q _ isw_rng⟩
  · cases hd
theorem isw_rngC {I : Hp} {lo c : Int} {n : Nat} : IsW K I (Itc lo c n) ((List.range n).map fun (i : Nat) => D.int (lo + (i : Int) * c)) := by
  refine ⟨fun _ => True, _, by rw [List.length_map, List.length_range]; exact walk_rangeC, fun _ _ _ _ => trivial, ?_⟩
  rintro i H x H' I2 hi ⟨rfl, rfl⟩ e1 e2
  rw [List.length_map, List.length_range] at hi
  refine ⟨I2, .int (lo + i * c), Gr.refl e2, ?_, .int _⟩
  rw [List.getElem?_map, List.getElem?_range hi]
  rfl
theorem si_rng3 (h : SA K W ta s) : SI K W (iRng3 ta) (iCa rng3 s) := fun Γ σ m A Q p => by
  refine h.step A p fun us Γ1 m1 vs n1 A1 r1 p1 => ?_
  obtain ⟨ds, hd, q⟩ := Post.w A1 p1
  obtain ⟨xs, h1, hd⟩ := Option.bind_eq_some_iff.mp hd
  have r := RUs.pu r1 h1
  unfold rng3 at hd
  split at hd
  · obtain ⟨hl, rfl⟩ := guard_eq hd
    obtain ⟨v, w, u, rfl, rv, rw, ru⟩ := rpsl3 r
    cases rv; cases rw; cases ru
    obtain ⟨rfl, h1, h2, h3, h4⟩ := hl
    exact ⟨_, _, _, _, rfl, RgC.neg h1 h2 h3 h4, q _ isw_rngC⟩
  · cases hd
theorem isw_pair {I : Hp} {J : It} {n : Nat} {xf yf : Nat → Option V} {xs : List D} {Gc : Hp → Prop} (w : Walk J n Gc (YPair xf yf)) (hn : xs.length = n) (hg : ∀ I1 H1, Ex I I1 → Ex I1 H1 → Gc H1)
    (hx : ∀ i x y, i < n → xf i = some x → yf i = some y → ∃ d e, xs[i]? = some (.tup [d, e]) ∧ Rp K I x d ∧ Rp K I y e) : IsW K I J xs := by
  refine ⟨Gc, YPair xf yf, by rw [hn]; exact w, hg, ?_⟩
  rintro i H v H' I1 hi ⟨T, x, y, rfl, hT, rfl, h1, h2⟩ e1 e2
  obtain ⟨d, e, hd, rx, ry⟩ := hx i x y (hn ▸ hi) h1 h2
  have en := Ex.new (o := .tup [x, y]) (e2.free hT)
  exact ⟨_, _, Gr.new e2 hT, hd, .tup upd_same (.cons (rx.mono (e1.trans en)) (.cons (ry.mono (e1.trans en)) .nil))⟩
def enumL (ds : List D) : List D := ds.mapIdx fun i d => .tup [.int i, d]
def enum1 : List D → Option (List D)
  | [d] => (itemsL d).map enumL
  | _ => none
theorem si_enum (h : SA K W ta s) : SI K W (iEnum K ta) (iCa enum1 s) := fun Γ σ m A Q p => by
  refine h.step A p fun us Γ1 m1 vs n1 A1 r1 p1 => ?_
  obtain ⟨ds, hd, q⟩ := Post.w A1 p1
  obtain ⟨xs, h1, hd⟩ := Option.bind_eq_some_iff.mp hd
  have r := RUs.pu r1 h1
  unfold enum1 at hd
  split at hd
  · obtain ⟨es, he, rfl⟩ := Option.map_eq_some_iff.mp hd
    obtain ⟨v, rfl, rv⟩ := rpsl1 r
    obtain ⟨a, vs, rfl, hs, hr⟩ := rp_l rv (items_l he)
    refine ⟨_, _, rfl, ex_l A1.ih hs, q _ (isw_pair walk_enum ?_ (fun I2 H2 e1 e2 => ex_l (e1.trans e2) hs) ?_)⟩
    · rw [enumL, List.length_mapIdx, hr.length]
    · intro i x y hi h1 h2
      obtain ⟨d, hd, rd⟩ := hr.getV h2
      refine ⟨.int i, d, ?_, ?_, rd⟩
      · rw [enumL, List.getElem?_mapIdx, hd]; rfl
      · cases h1; exact .int _
  · cases hd
end
end S

namespace S
open PySem PySem.Spec L2
open G (Ex Gr ex_l ex_t ExnAt exx exx_ok)
/-! ### methods that change a list of the def's own -/
def MtS (K : PySem.W.Frag) (r : V → List V → Hp → VK → Prop) (f : D → List D → Option (D × D)) : Prop := ∀ x xs d y, f x xs = some (d, y) → (∃ ds, x = .lst ds) ∧ ∀ (I H : Hp) (a : Addr) (o : HO) (vs : List V), Ex I H → I a = none → MRp K I o x → H a = some o → Rps K I vs xs →
  ∀ Q : VK, (∀ v o', Rp K I v d → MRp K I o' y → Q v (upd H a o')) → r (.ref a) vs H Q
def isLc (mm : List Cell) : U → Bool
  | .lc j => (match mm[j]? with
    | some (.p (.lst _)) => true
    | some (.n _) => true
    | _ => false)
  | _ => false
/-- recv.m(args) -/
def sMt (f : D → List D → Option (D × D)) (recv : Sg → Rs U) (args : Sg → Rs (List U)) : Sg → Rs U := fun Γ => (recv Γ).bind fun u Γ1 => if isLc Γ1.mm u then (args Γ1).bind fun us Γ2 => (match u with
  | .lc j => (match Γ2.mm[j]? with
    | some (.p x) => (match (pus us).bind (f x) with
      | some (d, y) => .ok (.d d) ⟨Γ2.sl, Γ2.mm.set j (.p y)⟩
      | none => .st)
    | _ => .st)
  | _ => .st) else .st
/-- recv.append(e): a list of data, or a list of cells -/
def sApp (recv e : Sg → Rs U) : Sg → Rs U := fun Γ => (recv Γ).bind fun u Γ1 => if isLc Γ1.mm u then (e Γ1).bind fun w Γ2 => (match u with
  | .lc j => (match Γ2.mm[j]? with
    | some (.p (.lst ds)) => (match pu w with
      | some d => if ds.length < sizeLine then .ok (.d .non) ⟨Γ2.sl, Γ2.mm.set j (.p (.lst (ds ++ [d])))⟩ else .st
      | none => .st)
    | some (.n us) => if us.length < sizeLine then .ok (.d .non) ⟨Γ2.sl, Γ2.mm.set j (.n (us ++ [w]))⟩ else .st
    | _ => .st)
  | _ => .st) else .st
section
variable {K : PySem.W.Frag} {W : WX} {to te : TE} {ta : TA} {recv e : Sg → Rs U} {args : Sg → Rs (List U)}
theorem is_lc {Γ : Sg} {σ : L2.St} {m : Wd} {v : V} {u : U} (A : At K σ m Γ) (r : RU K m.I m.as Γ.mm.length v u) (h : isLc Γ.mm u = true) : ∃ j, u = .lc j ∧ v = .ref (m.as j) ∧ j < Γ.mm.length ∧ tyV K "list" v m.H := by
  cases r with
  | d _ => cases h
  | @lc j hj =>
    refine ⟨j, rfl, rfl, hj, ?_⟩
    unfold isLc at h
    dsimp only at h
    cases q : Γ.mm[j]? with
    | none => rw [q] at h; cases h
    | some c =>
      rw [q] at h
      have ok := A.mm j c q
      cases c with
      | p d =>
        cases d <;> first | (cases h; done) | skip
        obtain ⟨_, o, ho, r⟩ := ok
        cases r
        exact .inl ⟨rfl, _, .inl (.inl ho)⟩
      | n us => obtain ⟨_, vs, ho, _⟩ := ok; exact .inl ⟨rfl, _, .inl (.inl ho)⟩
      | gone => cases h
theorem se_mt {r : V → List V → Hp → VK → Prop} {f : D → List D → Option (D × D)} (hr : MtS K r f) (h1 : SE K W to recv) (h2 : SA K W ta args) : SE K W (tBM K "list" r to ta) (sMt f recv args) := fun Γ σ m A Q p => by
  refine h1.step A p fun u Γ1 m1 v n1 A1 r1 p1 => ?_
  split at p1
  · rename_i hl
    obtain ⟨j, rfl, rfl, hj, ht⟩ := is_lc A1 r1 hl
    refine ⟨ht, h2.step A1 p1 fun us Γ2 m2 vs n2 A2 r2 p2 => ?_⟩
    dsimp only at p2
    cases q : Γ2.mm[j]? with
    | none => rw [q] at p2; exact p2.elim
    | some c =>
      rw [q] at p2
      cases c with
      | p x =>
        dsimp only at p2
        cases hf : (pus us).bind (f x) with
        | none => rw [hf] at p2; exact p2.elim
        | some dy =>
          obtain ⟨d, y⟩ := dy
          rw [hf] at p2
          obtain ⟨xs, hx, hf⟩ := Option.bind_eq_some_iff.mp hf
          obtain ⟨n0, o, ho, ro⟩ := A2.mm j _ q
          have ea := n2.as j hj
          rw [← ea]
          refine (hr x xs d y hf).2 m2.I m2.H _ o vs A2.ih n0 ro ho (RUs.pu r2 hx) Q fun v' o' rv ry => ?_
          obtain ⟨B, nx⟩ := A2.put (o := o') (y := .p y) q nofun nofun ⟨n0, o', upd_same, ry⟩
          exact p2 _ v' nx B (.d rv)
      | n _ => exact p2.elim
      | gone => exact p2.elim
  · exact p1.elim
theorem se_mt0 {r : V → List V → Hp → VK → Prop} {f : D → List D → Option (D × D)} (hr : MtS K r f) (h1 : SE K W to recv) : SE K W (tBM0 K "list" r to) (sMt f recv sNil) := fun Γ σ m A Q p => by
  refine h1.step A p fun u Γ1 m1 v n1 A1 r1 p1 => ?_
  split at p1
  · rename_i hl
    obtain ⟨j, rfl, rfl, hj, ht⟩ := is_lc A1 r1 hl
    refine ⟨ht, ?_⟩
    simp only [sNil, Rs.bind_ok] at p1
    cases q : Γ1.mm[j]? with
    | none => rw [q] at p1; exact p1.elim
    | some c =>
      rw [q] at p1
      cases c with
      | p x =>
        dsimp only at p1
        cases hf : (pus []).bind (f x) with
        | none => rw [hf] at p1; exact p1.elim
        | some dy =>
          obtain ⟨d, y⟩ := dy
          rw [hf] at p1
          obtain ⟨xs, hx, hf⟩ := Option.bind_eq_some_iff.mp hf
          cases hx
          obtain ⟨n0, o, ho, ro⟩ := A1.mm j _ q
          refine (hr x [] d y hf).2 m1.I m1.H _ o [] A1.ih n0 ro ho .nil Q fun v' o' rv ry => ?_
          obtain ⟨B, nx⟩ := A1.put (o := o') (y := .p y) q nofun nofun ⟨n0, o', upd_same, ry⟩
          exact p1 _ v' nx B (.d rv)
      | n _ => exact p1.elim
      | gone => exact p1.elim
  · exact p1.elim
theorem se_app (h1 : SE K W to recv) (h2 : SE K W te e) : SE K W (tBM K "list" rAppend to (tCons te tNil)) (sApp recv e) := fun Γ σ m A Q p => by
  refine h1.step A p fun u Γ1 m1 v n1 A1 r1 p1 => ?_
  split at p1
  · rename_i hl
    obtain ⟨j, rfl, rfl, hj, ht⟩ := is_lc A1 r1 hl
    refine ⟨ht, h2.step A1 p1 fun w Γ2 m2 v2 n2 A2 r2 p2 => ?_⟩
    dsimp only at p2
    show rAppend _ [v2] m2.H Q
    have ea := n2.as j hj
    rw [← ea]
    cases q : Γ2.mm[j]? with
    | none => rw [q] at p2; exact p2.elim
    | some c =>
      rw [q] at p2
      cases c with
      | p x =>
        cases x <;> first | exact p2.elim | skip
        rename_i ds
        dsimp only at p2
        cases hw : pu w with
        | none => rw [hw] at p2; exact p2.elim
        | some d =>
          rw [hw] at p2
          dsimp only at p2
          split at p2
          · rename_i hlen
            obtain ⟨n0, o, ho, ro⟩ := A2.mm j _ q
            cases ro with
            | lst ro =>
              obtain ⟨B, nx⟩ := A2.put (o := .lst (_ ++ [v2])) (y := .p (.lst (ds ++ [d]))) q nofun nofun ⟨n0, _, upd_same, .lst (ro.append (.one (RU.pu r2 hw)))⟩
              exact ⟨_, _, v2, rfl, rfl, ho, by rw [ro.length]; exact hlen, p2 _ _ nx B (.d .non)⟩
          · exact p2.elim
      | n us =>
        dsimp only at p2
        split at p2
        · rename_i hlen
          obtain ⟨n0, vs, ho, ro⟩ := A2.mm j _ q
          obtain ⟨B, nx⟩ := A2.put (o := .lst (vs ++ [v2])) (y := .n (us ++ [w])) q nofun nofun ⟨n0, _, upd_same, ro.append (.cons r2 .nil)⟩
          exact ⟨_, vs, v2, rfl, rfl, ho, by rw [ro.length]; exact hlen, p2 _ _ nx B (.d .non)⟩
        · exact p2.elim
      | gone => exact p2.elim
  · exact p1.elim
def mExtend : D → List D → Option (D × D)
  | .lst ds, [.lst es] => if ds.length + es.length ≤ sizeLine then some (.non, .lst (ds ++ es)) else none
  | _, _ => none
theorem ms_extend : MtS K rExtend mExtend := fun x xs d y hf => by
  unfold mExtend at hf
  split at hf
  · obtain ⟨hl, h⟩ := guard_eq hf
    cases h
    refine ⟨⟨_, rfl⟩, fun I H a o vs e n0 ro ho r Q q => ?_⟩
    obtain ⟨v, rfl, rv⟩ := rpsl1 r
    cases rv with
    | lst h1 h2 =>
      cases ro with
      | lst ro => exact ⟨a, _, _, _, rfl, rfl, ho, e _ _ h1, by rw [ro.length, h2.length]; exact hl, q _ _ .non (.lst (ro.append h2))⟩
  · cases hf
def mPop : D → List D → Option (D × D)
  | .lst ds, [] => (ds[ds.length - 1]?).map fun d => (d, .lst ds.dropLast)
  | _, _ => none
theorem ms_pop : MtS K rPop mPop := fun x xs d y hf => by
  unfold mPop at hf
  split at hf
  · rename_i ds
    obtain ⟨d', hd, h⟩ := Option.map_eq_some_iff.mp hf
    cases h
    refine ⟨⟨_, rfl⟩, fun I H a o vs e n0 ro ho r Q q => ?_⟩
    cases r
    cases ro with
    | lst ro =>
      obtain ⟨v, hv, rv⟩ := ro.get hd
      exact ⟨a, _, v, rfl, rfl, ho, by rw [ro.length]; exact hv, q v _ rv (.lst ro.dropLast)⟩
  · cases hf
def mPopAt : D → List D → Option (D × D)
  | .lst ds, [.int i] => if -(2 ^ 63) ≤ i ∧ i < 2 ^ 63 then (seqIndex? i ds.length).bind fun k => (ds[k]?).map fun d => (d, .lst (ds.eraseIdx k)) else none
  | _, _ => none
theorem ms_popAt : MtS K rPopAt mPopAt := fun x xs d y hf => by
  unfold mPopAt at hf
  split at hf
  · rename_i ds i
    obtain ⟨hl, hf⟩ := guard_eqO hf
    obtain ⟨k, hk, hf⟩ := Option.bind_eq_some_iff.mp hf
    obtain ⟨d', hd, h⟩ := Option.map_eq_some_iff.mp hf
    cases h
    refine ⟨⟨_, rfl⟩, fun I H a o vs e n0 ro ho r Q q => ?_⟩
    obtain ⟨v, rfl, rv⟩ := rpsl1 r
    cases rv
    cases ro with
    | lst ro =>
      obtain ⟨w, hw, rw'⟩ := ro.get hd
      exact ⟨a, _, i, k, w, rfl, rfl, ho, hl.1, hl.2, by rw [ro.length]; exact hk, hw, q w _ rw' (.lst (ro.eraseIdx k))⟩
  · cases hf
def mInsert : D → List D → Option (D × D)
  | .lst ds, [.int i, d] => if ds.length < sizeLine ∧ 0 ≤ i ∧ i < 2 ^ 63 then some (.non, .lst (ds.take i.toNat ++ [d] ++ ds.drop i.toNat)) else none
  | _, _ => none
theorem ms_insert : MtS K (fun x vs H Q => ∃ (l : Addr) (xs : List V) (i : Int) (y : V), x = .ref l ∧ vs = [.int i, y] ∧ H l = some (.lst xs) ∧ xs.length < sizeLine ∧ 0 ≤ i ∧ i < 2 ^ 63 ∧
    Q .non (upd H l (.lst (xs.take i.toNat ++ [y] ++ xs.drop i.toNat)))) mInsert := fun x xs d y hf => by
  unfold mInsert at hf
  split at hf
  · obtain ⟨hl, h⟩ := guard_eq hf
    cases h
    refine ⟨⟨_, rfl⟩, fun I H a o vs e n0 ro ho r Q q => ?_⟩
    obtain ⟨v, w, rfl, rv, rw'⟩ := rpsl2 r
    cases rv
    cases ro with
    | lst ro => exact ⟨a, _, _, w, rfl, rfl, ho, by rw [ro.length]; exact hl.1, hl.2.1, hl.2.2, q _ _ .non (.lst (((ro.take _).append (.one rw')).append (ro.drop _)))⟩
  · cases hf
def mReverse : D → List D → Option (D × D)
  | .lst ds, [] => some (.non, .lst ds.reverse)
  | _, _ => none
theorem ms_reverse : MtS K rReverse mReverse := fun x xs d y hf => by
  unfold mReverse at hf
  split at hf
  · cases hf
    refine ⟨⟨_, rfl⟩, fun I H a o vs e n0 ro ho r Q q => ?_⟩
    cases r
    cases ro with
    | lst ro => exact ⟨a, _, rfl, rfl, ho, q _ _ .non (.lst ro.reverse)⟩
  · cases hf
def mClear : D → List D → Option (D × D)
  | .lst ds, [] => some (.non, .lst [])
  | _, _ => none
theorem ms_clear : MtS K rClear mClear := fun x xs d y hf => by
  unfold mClear at hf
  split at hf
  · cases hf
    refine ⟨⟨_, rfl⟩, fun I H a o vs e n0 ro ho r Q q => ?_⟩
    cases r
    cases ro with
    | lst ro => exact ⟨a, _, rfl, rfl, ho, q _ _ .non (.lst .nil)⟩
  · cases hf
/-! ### x[i] = e of a list of the def's own -/
def sSetL (e o i : Sg → Rs U) : Sg → Rs Fl := fun Γ => (e Γ).bind fun w Γ1 => (o Γ1).bind fun u Γ2 => (i Γ2).bind fun k Γ3 => match u, k with
  | .lc j, .d (.int k) => (match Γ3.mm[j]? with
    | some (.p (.lst ds)) => (match pu w, ixN ds.length k with
      | some d, some n => .ok .nx ⟨Γ3.sl, Γ3.mm.set j (.p (.lst (ds.set n d)))⟩
      | _, _ => .st)
    | some (.n us) => (match ixN us.length k with
      | some n => .ok .nx ⟨Γ3.sl, Γ3.mm.set j (.n (us.set n w))⟩
      | _ => .st)
    | _ => .st)
  | _, _ => .st
variable {ti : TE} {o i : Sg → Rs U}
theorem ss_setL (h1 : SE K W te e) (h2 : SE K W to o) (h3 : SE K W ti i) : SS K W (tAsg te (gSub to ti rSetL)) (sSetL e o i) := fun Γ σ m De A p => by
  refine h1.stepS A p fun w Γ1 m1 v1 n1 A1 r1 p1 => h2.stepS A1 p1 fun u Γ2 m2 v2 n2 A2 r2 p2 => h3.stepS A2 p2 fun k Γ3 m3 v3 n3 A3 r3 p3 => ?_
  cases r2 with
  | d _ => exact p3.elim
  | @lc j hj =>
    cases r3 with
    | lc _ => exact p3.elim
    | @d _ kk r3 =>
      cases kk <;> first | exact p3.elim | skip
      rename_i k
      cases r3
      dsimp only at p3
      have ea := n3.as j hj
      rw [← ea]
      have r1' := RU.mono (n2.trans n3) r1
      cases q : Γ3.mm[j]? with
      | none => rw [q] at p3; exact p3.elim
      | some c =>
        rw [q] at p3
        cases c with
        | p x =>
          cases x <;> first | exact p3.elim | skip
          rename_i ds
          dsimp only at p3
          cases hw : pu w with
          | none => rw [hw] at p3; exact p3.elim
          | some d =>
            cases hk : ixN ds.length k with
            | none => rw [hw, hk] at p3; exact p3.elim
            | some n =>
              rw [hw, hk] at p3
              obtain ⟨n0, ob, ho, ro⟩ := A3.mm j _ q
              cases ro with
              | lst ro =>
                rename_i vs
                obtain ⟨B, nx⟩ := A3.put (o := .lst (vs.set n v1)) (y := .p (.lst (ds.set n d))) q nofun nofun ⟨n0, _, upd_same, .lst (ro.set (RU.pu r1' hw) n)⟩
                exact ⟨_, vs, k, n, rfl, rfl, ho, by rw [ro.length]; exact hk, p3 σ _ nx B⟩
        | n us =>
          dsimp only at p3
          cases hk : ixN us.length k with
          | none => rw [hk] at p3; exact p3.elim
          | some n =>
            rw [hk] at p3
            obtain ⟨n0, vs, ho, ro⟩ := A3.mm j _ q
            obtain ⟨B, nx⟩ := A3.put (o := .lst (vs.set n v1)) (y := .n (us.set n w)) q nofun nofun ⟨n0, _, upd_same, RUs.set r1' n ro⟩
            exact ⟨_, vs, k, n, rfl, rfl, ho, by rw [ro.length]; exact hk, p3 σ _ nx B⟩
        | gone => exact p3.elim
end
/-! ### dicts -/
section
variable {κ : Type} [DecidableEq κ]
def dPutV {α : Type} : List κ → List α → κ → α → List α
  | k :: ks, x :: xs, j, y => (if k = j then y else x) :: dPutV ks xs j y
  | _, _, _, _ => []
def dPutK (ks : List κ) (j : κ) : List κ := if j ∈ ks then ks else ks ++ [j]
def dPut {α : Type} (ks : List κ) (xs : List α) (j : κ) (y : α) : List α := if j ∈ ks then dPutV ks xs j y else xs ++ [y]
theorem dPutV_len {α : Type} {j : κ} {y : α} : ∀ {ks : List κ} {xs : List α}, ks.length = xs.length → (dPutV ks xs j y).length = xs.length
  | [], [], _ => rfl
  | [], _ :: _, h => by cases h
  | _ :: _, [], h => by cases h
  | k :: ks, x :: xs, h => congrArg (· + 1) (dPutV_len (by simpa using h))
theorem dPut_len {α : Type} {j : κ} {y : α} {ks : List κ} {xs : List α} (h : ks.length = xs.length) : (dPutK ks j).length = (dPut ks xs j y).length := by
  unfold dPutK dPut
  split
  · rw [dPutV_len h, h]
  · simp [h]
theorem putK_map {j : κ} {y : V} : ∀ {ks : List κ} {vs : List V}, ks.length = vs.length → ((ks.zip vs).map fun kv => if kv.1 = j then (kv.1, y) else kv) = ks.zip (dPutV ks vs j y)
  | [], _, _ => rfl
  | _ :: _, [], h => by cases h
  | k :: ks, v :: vs, h => by
    rw [List.zip_cons_cons, List.map_cons, putK_map (by simpa using h), dPutV, List.zip_cons_cons]
    split <;> rfl
theorem putK_zip {j : κ} {y : V} {ks : List κ} {vs : List V} (h : ks.length = vs.length) : putK (ks.zip vs) j y = (dPutK ks j).zip (dPut ks vs j y) := by
  unfold putK
  have e : ((ks.zip vs).any fun kv => decide (kv.1 = j)) = decide (j ∈ ks) := by
    have : ∀ {ks : List κ} {vs : List V}, ks.length = vs.length → ((ks.zip vs).any fun kv => decide (kv.1 = j)) = decide (j ∈ ks) := by
      intro ks
      induction ks with
      | nil => intro vs _; simp
      | cons k ks ih =>
        intro vs h
        cases vs with
        | nil => cases h
        | cons v vs =>
          rw [List.zip_cons_cons, List.any_cons, ih (by simpa using h)]
          by_cases z : k = j
          · simp [z]
          · simp [z, Ne.symm z]
    exact this h
  rw [e]
  unfold dPutK dPut
  by_cases hj : j ∈ ks
  · simp only [hj, decide_true, if_true]
    exact putK_map h
  · simp only [hj, decide_false, if_false]
    rw [if_neg Bool.false_ne_true, List.zip_append h]; rfl
theorem rps_dPutV {K : PySem.W.Frag} {I : Hp} {v : V} {d : D} (r : Rp K I v d) {j : κ} : ∀ {ks : List κ} {vs : List V} {ds : List D}, Rps K I vs ds → Rps K I (dPutV ks vs j v) (dPutV ks ds j d)
  | [], _, _, _ => by simp [dPutV]; exact .nil
  | _ :: _, _, _, .nil => .nil
  | k :: ks, _, _, .cons h t => by
    unfold dPutV
    refine .cons ?_ (rps_dPutV r t)
    split
    · exact r
    · exact h
theorem rps_dPut {K : PySem.W.Frag} {I : Hp} {v : V} {d : D} (r : Rp K I v d) {j : κ} {ks : List κ} {vs : List V} {ds : List D} (h : Rps K I vs ds) : Rps K I (dPut ks vs j v) (dPut ks ds j d) := by
  unfold dPut
  split
  · exact rps_dPutV r h
  · exact h.append (.one r)
end
def putD (x y d : D) : Option D := match x with
  | .dic ks ds => if ks.length = ds.length ∧ ks.length < sizeLine then (keyOf y).map fun k => .dic (dPutK ks k) (dPut ks ds k d) else none
  | .dit ks ds => if ks.length = ds.length ∧ ks.length < sizeLine then (tkeyOf y).map fun k => .dit (dPutK ks k) (dPut ks ds k d) else none
  | _ => none
/-- o[i] = e of a dict of the def's own -/
def sSetD (e o i : Sg → Rs U) : Sg → Rs Fl := fun Γ => (e Γ).bind fun w Γ1 => (o Γ1).bind fun u Γ2 => (i Γ2).bind fun k Γ3 => match u, k, w with
  | .lc j, .d k, .d w => (match Γ3.mm[j]? with
    | some (.p x) => (match putD x k w with
      | some y => .ok .nx ⟨Γ3.sl, Γ3.mm.set j (.p y)⟩
      | none => .st)
    | _ => .st)
  | _, _, _ => .st
section
variable {K : PySem.W.Frag} {W : WX} {to te ti : TE} {e o i : Sg → Rs U}
theorem zip_len {κ : Type} {ks : List κ} {vs : List V} (h : ks.length = vs.length) : (ks.zip vs).length = ks.length := by rw [List.length_zip, ← h, Nat.min_self]
theorem ss_setD (h1 : SE K W te e) (h2 : SE K W to o) (h3 : SE K W ti i) : SS K W (sDPut to ti te) (sSetD e o i) := fun Γ σ m De A p => by
  refine h1.stepS A p fun w Γ1 m1 v1 n1 A1 r1 p1 => h2.stepS A1 p1 fun u Γ2 m2 v2 n2 A2 r2 p2 => h3.stepS A2 p2 fun k Γ3 m3 v3 n3 A3 r3 p3 => ?_
  cases r2 with
  | d _ => exact p3.elim
  | @lc j hj =>
    have r1' := RU.mono (n2.trans n3) r1
    cases r3 with
    | lc _ => exact p3.elim
    | @d _ kk r3 =>
      cases r1' with
      | lc _ => exact p3.elim
      | @d _ ww r1' =>
        dsimp only at p3
        have ea := n3.as j hj
        cases q : Γ3.mm[j]? with
        | none => rw [q] at p3; exact p3.elim
        | some c =>
          rw [q] at p3
          cases c with
          | p x =>
            dsimp only at p3
            cases hp : putD x kk ww with
            | none => rw [hp] at p3; exact p3.elim
            | some y =>
              rw [hp] at p3
              obtain ⟨n0, ob, ho, ro⟩ := A3.mm j _ q
              cases x <;> first | (cases hp; done) | skip
              · rename_i ks ds
                obtain ⟨hl, hp⟩ := guard_eqO hp
                obtain ⟨k, hk, rfl⟩ := Option.map_eq_some_iff.mp hp
                cases ro with
                | dic l ro =>
                  rename_i vs
                  obtain ⟨B, nx⟩ := A3.put (o := .dK ((dPutK ks k).zip (dPut ks vs k v1))) (y := .p (.dic (dPutK ks k) (dPut ks ds k ww))) q nofun nofun ⟨n0, _, upd_same, .dic (dPut_len l) (rps_dPut r1' ro)⟩
                  refine ⟨_, _, rfl, .inl ⟨_, k, by rw [← ea]; exact ho, key_v (H := m3.H) (.p r3) hk, by rw [zip_len l]; exact hl.2, rfl⟩, ?_⟩
                  rw [putK_zip l, ← ea]
                  exact p3 σ _ nx B
              · rename_i ks ds
                obtain ⟨hl, hp⟩ := guard_eqO hp
                obtain ⟨k, hk, rfl⟩ := Option.map_eq_some_iff.mp hp
                cases ro with
                | dit l ro =>
                  rename_i vs
                  obtain ⟨b, rfl, hb⟩ := tkey_v A3.ih (.p r3) hk
                  obtain ⟨B, nx⟩ := A3.put (o := .dT ((dPutK ks k).zip (dPut ks vs k v1))) (y := .p (.dit (dPutK ks k) (dPut ks ds k ww))) q nofun nofun ⟨n0, _, upd_same, .dit (dPut_len l) (rps_dPut r1' ro)⟩
                  refine ⟨_, _, rfl, .inr ⟨_, k, b, by rw [← ea]; exact ho, rfl, hb, by rw [zip_len l]; exact hl.2, rfl⟩, ?_⟩
                  rw [putK_zip l, ← ea]
                  exact p3 σ _ nx B
          | n _ => exact p3.elim
          | gone => exact p3.elim
/-! {} -/
def sDK : Sg → Rs U := ofO (some (.dic [] []))
def sDKA : Sg → Rs U := ofA (some (.dic [] []))
def sDTA : Sg → Rs U := ofA (some (.dit [] []))
theorem se_dK : SE K W tDNewK sDK := fun Γ σ m A Q p => by
  obtain ⟨d, hd, q⟩ := p.o A
  cases hd
  exact fun p hp => q _ _ _ (Gr.new A.ih hp) (.dic (ks := []) (xs := []) upd_same rfl .nil)
theorem se_dKA : SE K W tDNewK sDKA := fun Γ σ m A Q p => by
  obtain ⟨d, hd, q⟩ := p.a A
  cases hd
  exact fun p hp => q p _ hp (.dic (ks := []) (vs := []) rfl .nil)
theorem se_dTA : SE K W tDNewT sDTA := fun Γ σ m A Q p => by
  obtain ⟨d, hd, q⟩ := p.a A
  cases hd
  exact fun p hp => q p _ hp (.dit (ks := []) (vs := []) rfl .nil)
/-! {k: v, ..} -/
def rP (K : PySem.W.Frag) : Rel (List Key × List D) (List (V × V)) := fun m _ ps kd => ∃ vs : List V, kd.1.length = vs.length ∧ Rps K m.I vs kd.2 ∧ ps = (kd.1.zip vs).map fun kv => (kV kv.1, kv.2)
abbrev SPs (K : PySem.W.Frag) (W : WX) (trs : List (TE × TE)) (s : Sg → Rs (List Key × List D)) : Prop := J K W (rP K) (tPairs trs) s
def pN : Sg → Rs (List Key × List D) := fun Γ => .ok ([], []) Γ
def pC (k v : Sg → Rs U) (r : Sg → Rs (List Key × List D)) : Sg → Rs (List Key × List D) := fun Γ => (k Γ).bind fun x Γ1 => (v Γ1).bind fun y Γ2 => match (pu x).bind keyOf, pu y with
  | some key, some d => (r Γ2).bind fun kd Γ3 => .ok (key :: kd.1, d :: kd.2) Γ3
  | _, _ => .st
theorem sp_nil : SPs K W [] pN := fun Γ σ m A Q p => p m [] .refl A ⟨[], rfl, .nil, rfl⟩
theorem sp_cons {tk tv : TE} {trs : List (TE × TE)} {k v : Sg → Rs U} {r : Sg → Rs (List Key × List D)} (h1 : SE K W tk k) (h2 : SE K W tv v) (h3 : SPs K W trs r) : SPs K W ((tk, tv) :: trs) (pC k v r) := fun Γ σ m A Q p => by
  refine h1.step A p fun x Γ1 m1 v1 n1 A1 r1 p1 => h2.step A1 p1 fun y Γ2 m2 v2 n2 A2 r2 p2 => ?_
  cases hk : (pu x).bind keyOf with
  | none => rw [hk] at p2; exact p2.elim
  | some key =>
    cases hy : pu y with
    | none => rw [hk, hy] at p2; exact p2.elim
    | some d =>
      rw [hk, hy] at p2
      obtain ⟨dk, h4, h5⟩ := Option.bind_eq_some_iff.mp hk
      refine h3.step A2 p2 fun kd Γ3 m3 ps n3 A3 r3 p3 => ?_
      obtain ⟨vs, e1, e2, rfl⟩ := r3
      refine p3 m3 _ .refl A3 ⟨v2 :: vs, by simp [e1], .cons ((RU.pu r2 hy).mono n3.ex) e2, ?_⟩
      have := key_v (H := m1.H) (.p (RU.pu r1 h4)) h5
      rw [this]; rfl
def sDisp (r : Sg → Rs (List Key × List D)) : Sg → Rs U := fun Γ => (r Γ).bind fun kd Γ1 => if kd.1.Nodup ∧ kd.1.length ≤ 15 then .ok (.d (.dic kd.1 kd.2)) Γ1 else .st
/-- a hidden new object becomes data -/
theorem At.hid {Γ : Sg} {σ : L2.St} {m : Wd} {a : Addr} {o : HO} {d : D} (A : At K σ m Γ) (fr : ∀ j, live Γ.mm j → m.as j ≠ a) (n0 : m.I a = none) (r : MRp K m.I o d) {m0 : Wd} {mm0 : List Cell} (nx : Nx m0 mm0 m Γ.mm) (h0 : m0.H a = none) :
    ∃ m', m'.H = upd m.H a o ∧ At K σ m' Γ ∧ Rp K m'.I (.ref a) d ∧ Nx m0 mm0 m' Γ.mm := by
  have e1 : Ex m.I (upd m.I a o) := Ex.new n0
  refine ⟨⟨upd m.I a o, upd m.H a o, m.as⟩, rfl, ⟨fun x u h => ?_, fun i u h => ?_, fun j c hc => ?_, A.ne, A.len⟩, (r.mono e1).rp upd_same, ⟨nx.ex.trans e1, fun x u h hn => ?_, fun x h hn => ?_, fun x h => ?_, nx.as, nx.le, nx.nw⟩⟩
  · show upd m.H a o x = some u
    by_cases z : x = a
    · subst z
      have h : upd m.I x o x = some u := h
      rw [upd_same] at h ⊢; exact h
    · have h : upd m.I a o x = some u := h
      rw [upd_ne z] at h ⊢; exact A.ih x u h
  · obtain ⟨v, q1, q2⟩ := A.sl i u h
    exact ⟨v, q1, q2.up e1 (fun _ _ => rfl) (Nat.le_refl _)⟩
  · have q := A.mm j c hc
    by_cases hq : c = .gone
    · subst hq; trivial
    · have ne := fr j ⟨c, hc, hq⟩
      cases c with
      | p d => obtain ⟨a1, o1, b1, c1⟩ := q; exact ⟨by show upd m.I a _ _ = _; rw [upd_ne ne]; exact a1, o1, by show upd m.H a _ _ = _; rw [upd_ne ne]; exact b1, c1.mono e1⟩
      | n us => obtain ⟨a1, o1, b1, c1⟩ := q; exact ⟨by show upd m.I a _ _ = _; rw [upd_ne ne]; exact a1, o1, by show upd m.H a _ _ = _; rw [upd_ne ne]; exact b1, c1.up e1 (fun _ _ => rfl) (Nat.le_refl _)⟩
      | gone => trivial
  · show upd m.H a o x = some u
    rw [upd_ne (ne_of_none h h0)]; exact nx.kp x u h hn
  · show upd m.I a o x = m0.I x
    have z : x ≠ a := fun z => by rw [z] at h; exact h h0
    rw [upd_ne z]; exact nx.fr x h hn
  · show upd m.H a o x ≠ none
    by_cases z : x = a
    · rw [z, upd_same]; exact nofun
    · rw [upd_ne z]; exact nx.th x h
theorem se_disp {trs : List (TE × TE)} {r : Sg → Rs (List Key × List D)} (h : SPs K W trs r) : SE K W (tDisp trs) (sDisp r) := fun Γ σ m A Q p => fun a ha => by
  have g := Gr.junk (m := []) (o := HO.dK []) A.ih ha
  have A0 := A.g g
  have nx0 : Nx m Γ.mm ⟨m.I, upd m.H a (.dK []), m.as⟩ Γ.mm := .g g
  refine h Γ σ ⟨m.I, upd m.H a (.dK []), m.as⟩ A0 _ ?_
  unfold sDisp at p
  cases hr : r Γ with
  | st => rw [hr] at p; exact p.elim
  | ex x Γ1 =>
    rw [hr] at p
    exact fun m' C dx nx A' hc hd => p m' C dx (nx0.trans nx) A' hc (hd.back nx0.th)
  | ok kd Γ1 =>
    rw [hr] at p
    simp only [Rs.bind_ok] at p
    intro m1 ps n1 A1 r1
    obtain ⟨vs, e1, e2, rfl⟩ := r1
    split at p
    · rename_i hg
      have fr0 : ∀ j, live Γ.mm j → m.as j ≠ a := A.fresh ha
      have hp1 : m1.H a = some (.dK []) := n1.kp a _ upd_same fr0
      have n0 : m1.I a = none := (n1.fr a (by show upd m.H a _ a ≠ none; rw [upd_same]; exact nofun) fr0).trans (A.ih.free ha)
      have fr1 := n1.apart (a := a) (by show upd m.H a _ a ≠ none; rw [upd_same]; exact nofun) fr0
      refine ⟨hp1, kd.1.zip vs, rfl, by rw [zip_len e1]; exact hg.2, ?_⟩
      have em : mergeK [] (kd.1.zip vs) = kd.1.zip vs := by
        have := G.merge_nodup (kd.1.zip vs) [] (by rw [List.nil_append, List.map_fst_zip (by omega)]; exact hg.1)
        simpa using this
      rw [em]
      obtain ⟨m2, hH, B, rB, nB⟩ := A1.hid (o := .dK (kd.1.zip vs)) (d := .dic kd.1 kd.2) fr1 n0 (.dic e1 e2) (nx0.trans n1) ha
      rw [← hH]
      exact p m2 (.ref a) nB B (.d rB)
    · exact p.elim
end
end S

namespace S
open PySem PySem.Spec L2
open G (Ex Gr ex_l ex_t ExnAt exx exx_ok)
/-! ### what a def gives -/
inductive Rr where
  | st | ok (d : D) | ex (x : Xn)
  deriving Inhabited
inductive Rb where
  | st | ok (d : D) (mm : List Cell) | ex (x : Xn) (mm : List Cell)
  deriving Inhabited
def slotsP (n : Nat) (ds : List D) : List (Option U) := ds.map (fun d => some (.d d)) ++ List.replicate (n - ds.length) none
def slotsU (n : Nat) (us : List U) : List (Option U) := us.map some ++ List.replicate (n - us.length) none
/-- a def of data: nothing that is handed in is changed -/
def runP (n : Nat) (body : Sg → Rs Fl) (ds : List D) : Rr := match body ⟨slotsP n ds, []⟩ with
  | .st => .st
  | .ok .nx _ => .ok .non
  | .ok (.rt d) _ => .ok d
  | .ok (.rf _ d) _ => .ok d
  | .ok _ _ => .st
  | .ex x _ => .ex x
/-- such a def whose result is a new object that the asker may change -/
def runF (n : Nat) (body : Sg → Rs Fl) (ds : List D) : Rr := match body ⟨slotsP n ds, []⟩ with
  | .ok (.rf _ d) _ => .ok d
  | .ex x _ => .ex x
  | _ => .st
def flatC : Cell → Bool
  | .n _ => false
  | _ => true
def cutM (n : Nat) (mm : List Cell) : Option (List Cell) := if (mm.take n).all flatC then some (mm.take n) else none
/-- a def to which cells are lent -/
def runB (n : Nat) (body : Sg → Rs Fl) (us : List U) (mm : List Cell) : Rb := match body ⟨slotsU n us, mm⟩ with
  | .st => .st
  | .ok .nx Γ => (match cutM mm.length Γ.mm with | some mm' => .ok .non mm' | none => .st)
  | .ok (.rt d) Γ => (match cutM mm.length Γ.mm with | some mm' => .ok d mm' | none => .st)
  | .ok _ _ => .st
  | .ex x Γ => (match cutM mm.length Γ.mm with | some mm' => .ex x mm' | none => .st)
/-! ### promises -/
def spP (K : PySem.W.Frag) (F : List D → Rr) : Sp := fun vs H Q E => ∃ (I : Hp) (ds : List D), Ex I H ∧ Rps K I vs ds ∧ match F ds with
  | .st => False
  | .ok d => ∀ I' H' v, Gr [] I H I' H' → Rp K I' v d → Q v H'
  | .ex x => ∀ I' H' C dx, Gr [] I H I' H' → clsA K x.C = some C → XdAt K I' H' H dx x.ns x.ds → E (.ref C) (some dx) H'
def spF (K : PySem.W.Frag) (F : List D → Rr) : Sp := fun vs H Q E => ∃ (I : Hp) (ds : List D), Ex I H ∧ Rps K I vs ds ∧ match F ds with
  | .st => False
  | .ok d => ∀ I' H' a o, Gr [] I H I' H' → I' a = none → H a = none → H' a = some o → MRp K I' o d → Q (.ref a) H'
  | .ex x => ∀ I' H' C dx, Gr [] I H I' H' → clsA K x.C = some C → XdAt K I' H' H dx x.ns x.ds → E (.ref C) (some dx) H'
/-- the cells lie well -/
structure Cs (K : PySem.W.Frag) (m : Wd) (mm : List Cell) : Prop where
  ih : Ex m.I m.H
  ok : ∀ (j : Nat) (c : Cell), mm[j]? = some c → CellOk K m.I m.H m.as mm.length (m.as j) c
  ne : ∀ j k, live mm j → live mm k → j ≠ k → m.as j ≠ m.as k
def spB (K : PySem.W.Frag) (F : List U → List Cell → Rb) : Sp := fun vs H Q E => ∃ (m : Wd) (us : List U) (mm : List Cell), m.H = H ∧ Cs K m mm ∧ RUs K m.I m.as mm.length vs us ∧ match F us mm with
  | .st => False
  | .ok d mm' => ∀ m' v, Nx m mm m' mm' → Cs K m' mm' → Rp K m'.I v d → Q v m'.H
  | .ex x mm' => ∀ m' C dx, Nx m mm m' mm' → Cs K m' mm' → clsA K x.C = some C → XdAt K m'.I m'.H m.H dx x.ns x.ds → E (.ref C) (some dx) m'.H
section
variable {K : PySem.W.Frag}
theorem Nx.gr {m m' : Wd} {mm' : List Cell} (x : Nx m [] m' mm') (e : Ex m'.I m'.H) : Gr [] m.I m.H m'.I m'.H :=
  ⟨x.ex, e, fun a o _ h => x.kp a o h (fun j hj => absurd (live_lt hj) (by simp)), x.th, fun a h => x.fr a h (fun j hj => absurd (live_lt hj) (by simp))⟩
theorem at_start {I H : Hp} {N : List Str} {vs : List V} {ds : List D} (e : Ex I H) (r : Rps K I vs ds) : At K (start N vs) ⟨I, H, fun _ => 0⟩ ⟨slotsP N.length ds, []⟩ := by
  refine ⟨e, fun i u h => ?_, fun j c h => by simp at h, fun j k hj => absurd (live_lt hj) (by simp), ?_⟩
  · unfold slotsP at h
    rw [List.getElem?_append] at h
    split at h
    · rw [List.getElem?_map] at h
      cases q : ds[i]? with
      | none => rw [q] at h; cases h
      | some x =>
        rw [q] at h
        cases h
        obtain ⟨v, hv, rv⟩ := r.get q
        refine ⟨v, ?_, .d rv⟩
        unfold L2.start
        rw [List.getElem?_append_left (by rw [List.length_map]; exact (List.getElem?_eq_some_iff.mp hv).1), List.getElem?_map, hv]
        rfl
    · obtain ⟨a, b⟩ := List.getElem?_eq_some_iff.mp h
      rw [List.getElem_replicate] at b
      cases b
  · unfold L2.start slotsP
    simp [r.length]
theorem At.cs {σ : L2.St} {m : Wd} {Γ : Sg} (A : At K σ m Γ) : Cs K m Γ.mm := ⟨A.ih, A.mm, A.ne⟩
theorem Cs.at_ {σ : L2.St} {m m' : Wd} {Γ : Sg} {mm' : List Cell} (A : At K σ m Γ) (c : Cs K m' mm') (x : Nx m Γ.mm m' mm') : At K σ m' ⟨Γ.sl, mm'⟩ :=
  ⟨c.ih, fun i u h => by obtain ⟨v, h1, h2⟩ := A.sl i u h; exact ⟨v, h1, h2.mono x⟩, c.ok, c.ne, A.len⟩
theorem at_startU {m : Wd} {N : List Str} {vs : List V} {us : List U} {mm : List Cell} (c : Cs K m mm) (r : RUs K m.I m.as mm.length vs us) : At K (start N vs) m ⟨slotsU N.length us, mm⟩ := by
  refine ⟨c.ih, fun i u h => ?_, c.ok, c.ne, ?_⟩
  · unfold slotsU at h
    rw [List.getElem?_append] at h
    split at h
    · rw [List.getElem?_map] at h
      cases q : us[i]? with
      | none => rw [q] at h; cases h
      | some x =>
        rw [q] at h
        cases h
        obtain ⟨v, hv, rv⟩ := r.get q
        refine ⟨v, ?_, rv⟩
        unfold L2.start
        rw [List.getElem?_append_left (by rw [List.length_map]; exact (List.getElem?_eq_some_iff.mp hv).1), List.getElem?_map, hv]
        rfl
    · obtain ⟨a, b⟩ := List.getElem?_eq_some_iff.mp h
      rw [List.getElem_replicate] at b
      cases b
  · unfold L2.start slotsU
    simp [r.length]
theorem take_at {n j : Nat} {mm : List Cell} {c : Cell} (h : (mm.take n)[j]? = some c) : mm[j]? = some c := by
  rw [List.getElem?_take] at h
  split at h
  · exact h
  · cases h
theorem cut_ok {m m' : Wd} {mm mm' r : List Cell} (h : cutM mm.length mm' = some r) (x : Nx m mm m' mm') (c : Cs K m' mm') : Nx m mm m' r ∧ Cs K m' r := by
  unfold cutM at h
  obtain ⟨hf, rfl⟩ := guard_eq h
  have lv : ∀ j, live (mm'.take mm.length) j → live mm' j := fun j ⟨c, h1, h2⟩ => ⟨c, take_at h1, h2⟩
  refine ⟨⟨x.ex, x.kp, x.fr, x.th, x.as, by rw [List.length_take]; have := x.le; omega, fun j hj => x.nw j (lv j hj)⟩, ⟨c.ih, fun j y hy => ?_, fun j k hj hk ne => c.ne j k (lv j hj) (lv k hk) ne⟩⟩
  have q := c.ok j y (take_at hy)
  have hm := List.all_eq_true.mp hf y (List.mem_of_getElem? hy)
  cases y with
  | p d => exact q
  | n us => cases hm
  | gone => trivial
end
/-! ### such defs of the text -/
structure Cal (P : Program) (w : World) (K : PySem.W.Frag) (mg : Str → Option Value) (base : Heap) (x : Str) (k : Nat) (ps : List Str) (sp : Sp) : Prop where
  ex : ∃ f fd, FnOk P w K mg base (L2.CX P w) k f fd ps sp ∧ mg x = some (.ref f) ∧ PySem.W.keepIn K (.ref f) = true ∧ Binds K fd ps [] ∧ ∃ (oc : Value) (od : Option Addr) (osl : Array (Option Value)), K.lookup f = some ⟨oc, od, .func fd, osl⟩
section
variable {P : Program} {w : World} {K : PySem.W.Frag} {mg : Str → Option Value} {base : Heap} {x qual : Str} {st : Stmt} {f : Addr} {fd : FuncData} {N ps : List Str} {k : Nat}
/-- what the body's walk must show -/
def BodyOk (P : Program) (w : World) (K : PySem.W.Frag) (mg : Str → Option Value) (base : Heap) (N : List Str) (qual : Str) (st : Stmt) (f : Addr) (k : Nat) (body : Sg → Rs Fl) : Prop :=
  ∀ (cdv : Value) (A : Around) (outer : List Env) (s : Shared) (H : Hp) (E : XK), Room k (A.deeper (PyProof.Rows.envOfC qual (defScope st) s.heap.objs.size f cdv)) →
      ∃ t, PSs (cxOf (L2.CX P w) P w K mg base N qual (defScope st) f cdv A outer s H E) (defBody st) t ∧ SS K (fun cls d _ H => E cls d H) t body
theorem ok_P {n : Nat} {F : List D → Rr} {body : Sg → Rs Fl} (D1 : G.DefAt K mg x qual st ps) (S : FnScope N ps (defScope st)) (hN : N.length = n) (hF : ∀ ds, F ds ≠ .st → F ds = runP n body ds ∧ ds.length = ps.length) (hb : ∀ f, BodyOk P w K mg base N qual st f k body) : Cal P w K mg base x (k + 1) ps (spP K F) := by
  obtain ⟨f, fd, F1, hm, b⟩ := D1.ex
  obtain ⟨oc, od, kV, doc, pm, an, cdv, ct, osl, rfl, lk, _⟩ := id F1.ex
  refine ⟨f, _, F1.okX S (fun vs H Q E h => ?_) (fun cdv A outer s H vs Q E hr h => ?_), hm, F1.kp, b, oc, od, osl, lk⟩
  · obtain ⟨I, ds, _, r, h⟩ := h
    rw [r.length]
    refine (hF ds fun z => ?_).2
    rw [z] at h; exact h
  · obtain ⟨I, ds, e, r, h⟩ := h
    obtain ⟨t, ht, hs⟩ := hb f cdv A outer s H E hr
    have hne : F ds ≠ .st := fun z => by rw [z] at h; exact h
    rw [(hF ds hne).1] at h
    refine ⟨t, ht, hs ⟨slotsP N.length ds, []⟩ _ ⟨I, H, fun _ => 0⟩ _ (at_start e r) ?_⟩
    rw [hN]
    unfold runP at h
    cases hr : body ⟨slotsP n ds, []⟩ with
    | st => rw [hr] at h; exact h
    | ex x Γ => rw [hr] at h; exact fun σ' m' C dx nx A' hc hd => h m'.I m'.H C dx (nx.gr A'.ih) hc hd
    | ok fl Γ =>
      rw [hr] at h
      cases fl with
      | nx => exact fun σ' m' nx A' => h m'.I m'.H .non (nx.gr A'.ih) .non
      | bk => exact h.elim
      | ct => exact h.elim
      | rt d => exact fun σ' m' v nx A' rv => h m'.I m'.H v (nx.gr A'.ih) rv
      | rf j d =>
        intro σ' m' o nx A' hj n0 ho rv
        have h0 : H (m'.as j) = none := (nx.nw j ⟨_, hj, nofun⟩).resolve_left fun z => absurd (live_lt z) (by simp)
        have g := (nx.gr A'.ih).frz n0 h0 ho
        exact h _ m'.H _ g ((rv.mono (Ex.new n0)).rp upd_same)
theorem ok_F {n : Nat} {F : List D → Rr} {body : Sg → Rs Fl} (D1 : G.DefAt K mg x qual st ps) (S : FnScope N ps (defScope st)) (hN : N.length = n) (hF : ∀ ds, F ds ≠ .st → F ds = runF n body ds ∧ ds.length = ps.length) (hb : ∀ f, BodyOk P w K mg base N qual st f k body) : Cal P w K mg base x (k + 1) ps (spF K F) := by
  obtain ⟨f, fd, F1, hm, b⟩ := D1.ex
  obtain ⟨oc, od, kV, doc, pm, an, cdv, ct, osl, rfl, lk, _⟩ := id F1.ex
  refine ⟨f, _, F1.okX S (fun vs H Q E h => ?_) (fun cdv A outer s H vs Q E hr h => ?_), hm, F1.kp, b, oc, od, osl, lk⟩
  · obtain ⟨I, ds, _, r, h⟩ := h
    rw [r.length]
    refine (hF ds fun z => ?_).2
    rw [z] at h; exact h
  · obtain ⟨I, ds, e, r, h⟩ := h
    obtain ⟨t, ht, hs⟩ := hb f cdv A outer s H E hr
    have hne : F ds ≠ .st := fun z => by rw [z] at h; exact h
    rw [(hF ds hne).1] at h
    refine ⟨t, ht, hs ⟨slotsP N.length ds, []⟩ _ ⟨I, H, fun _ => 0⟩ _ (at_start e r) ?_⟩
    rw [hN]
    unfold runF at h
    cases hr : body ⟨slotsP n ds, []⟩ with
    | st => rw [hr] at h; exact h
    | ex x Γ => rw [hr] at h; exact fun σ' m' C dx nx A' hc hd => h m'.I m'.H C dx (nx.gr A'.ih) hc hd
    | ok fl Γ =>
      rw [hr] at h
      cases fl with
      | rf j d =>
        intro σ' m' o nx A' hj n0 ho rv
        have h0 : H (m'.as j) = none := (nx.nw j ⟨_, hj, nofun⟩).resolve_left fun z => absurd (live_lt z) (by simp)
        exact h m'.I m'.H _ o (nx.gr A'.ih) n0 h0 ho rv
      | _ => exact h.elim
theorem ok_B {n : Nat} {F : List U → List Cell → Rb} {body : Sg → Rs Fl} (D1 : G.DefAt K mg x qual st ps) (S : FnScope N ps (defScope st)) (hN : N.length = n) (hF : ∀ us mm, F us mm ≠ .st → F us mm = runB n body us mm ∧ us.length = ps.length) (hb : ∀ f, BodyOk P w K mg base N qual st f k body) : Cal P w K mg base x (k + 1) ps (spB K F) := by
  obtain ⟨f, fd, F1, hm, b⟩ := D1.ex
  obtain ⟨oc, od, kV, doc, pm, an, cdv, ct, osl, rfl, lk, _⟩ := id F1.ex
  refine ⟨f, _, F1.okX S (fun vs H Q E h => ?_) (fun cdv A outer s H vs Q E hr h => ?_), hm, F1.kp, b, oc, od, osl, lk⟩
  · obtain ⟨m, us, mm, _, _, r, h⟩ := h
    rw [r.length]
    refine (hF us mm fun z => ?_).2
    rw [z] at h; exact h
  · obtain ⟨m, us, mm, rfl, c, r, h⟩ := h
    obtain ⟨t, ht, hs⟩ := hb f cdv A outer s m.H E hr
    have hne : F us mm ≠ .st := fun z => by rw [z] at h; exact h
    rw [(hF us mm hne).1] at h
    refine ⟨t, ht, hs ⟨slotsU N.length us, mm⟩ _ m _ (at_startU c r) ?_⟩
    rw [hN]
    unfold runB at h
    cases hr : body ⟨slotsU n us, mm⟩ with
    | st => rw [hr] at h; exact h
    | ex x Γ =>
      rw [hr] at h
      dsimp only at h
      cases hc : cutM mm.length Γ.mm with
      | none => rw [hc] at h; exact h.elim
      | some mm' =>
        rw [hc] at h
        intro σ' m' C dx nx A' hcl hd
        obtain ⟨n2, c2⟩ := cut_ok hc nx A'.cs
        exact h m' C dx n2 c2 hcl hd
    | ok fl Γ =>
      rw [hr] at h
      cases fl with
      | nx =>
        dsimp only at h
        cases hc : cutM mm.length Γ.mm with
        | none => rw [hc] at h; exact h.elim
        | some mm' =>
          rw [hc] at h
          intro σ' m' nx A'
          obtain ⟨n2, c2⟩ := cut_ok hc nx A'.cs
          exact h m' .non n2 c2 .non
      | bk => exact h.elim
      | ct => exact h.elim
      | rt d =>
        dsimp only at h
        cases hc : cutM mm.length Γ.mm with
        | none => rw [hc] at h; exact h.elim
        | some mm' =>
          rw [hc] at h
          intro σ' m' v nx A' rv
          obtain ⟨n2, c2⟩ := cut_ok hc nx A'.cs
          exact h m' v n2 c2 rv
      | rf j d => exact h.elim
end
/-! ### calls -/
section
variable {X : Cx} {P : Program} {w : World} (K : PySem.W.Frag) {mg : Str → Option Value} {base : Heap} {x : Str} {j k : Nat} {ps : List Str} {sp : Sp} {p pos : Pos} {e : Expr} {es : List Expr} {t : TA} {W : WX}
theorem k_cal (c : Cal P w K mg base x k ps sp) (hr : Room j X.A) (hk : k ≤ j) (tk : Takes X W) (hg : Gl X x) (ha : PA X (e :: es) t) (hdb : (x == ("__debug__" : Str)) = false := by decide)
    (he : starEach (e :: es) X.env = (false, eval e X.env) :: starEach es X.env := by rfl) (hpl : (backTo pos (starEach es X.env)).any (·.1) = false := by rfl)
    (hX : X.prog = P ∧ X.w = w ∧ X.K = K ∧ X.mg = mg ∧ X.base = base := by exact ⟨rfl, rfl, rfl, rfl, rfl⟩) :
    PE X (.Call (.Name x p) (e :: es) [] pos) (tCallS sp (WE W) t) := by
  obtain ⟨rfl, rfl, rfl, rfl, rfl⟩ := hX
  obtain ⟨f, fd, F, hm, kp, b, _⟩ := c.ex
  exact pe_callS F (hr.mono hk) hg hm kp b (passAt tk) ha hdb he hpl
open PyProof.Rows in
theorem k_cal0 (c : Cal P w K mg base x k ps sp) (hr : Room j X.A) (hk : k ≤ j) (tk : Takes X W) (hg : Gl X x) (hdb : (x == ("__debug__" : Str)) = false := by decide)
    (hX : X.prog = P ∧ X.w = w ∧ X.K = K ∧ X.mg = mg ∧ X.base = base := by exact ⟨rfl, rfl, rfl, rfl, rfl⟩) :
    PE X (.Call (.Name x p) [] [] pos) (tCallS sp (WE W) tNil) := by
  obtain ⟨rfl, rfl, rfl, rfl, rfl⟩ := hX
  obtain ⟨f, fd, F, hm, kp, b, _⟩ := c.ex
  refine ⟨fun pins s σ H Q I h => ?_⟩
  refine wpAny_Call_Name_kw (ld_glob I hg hm ?_ hdb)
  exact PySem.W.callWith_K0 I.kIn kp (run_fnS (us := []) F (hr.mono hk) b (passAt tk σ) I .nil h)
end
def ofR (r : Rr) (Γ : Sg) : Rs U := match r with
  | .st => .st
  | .ok d => .ok (.d d) Γ
  | .ex x => .ex x Γ
def ofRA (r : Rr) (Γ : Sg) : Rs U := match r with
  | .st => .st
  | .ok d => .ok (.lc Γ.mm.length) ⟨Γ.sl, Γ.mm ++ [.p d]⟩
  | .ex x => .ex x Γ
@[simp] theorem ofR_ok (d : D) (Γ : Sg) : ofR (.ok d) Γ = .ok (.d d) Γ := rfl
@[simp] theorem ofR_ex (x : Xn) (Γ : Sg) : ofR (.ex x) Γ = .ex x Γ := rfl
@[simp] theorem ofRA_ok (d : D) (Γ : Sg) : ofRA (.ok d) Γ = .ok (.lc Γ.mm.length) ⟨Γ.sl, Γ.mm ++ [.p d]⟩ := rfl
/-- f(args), of data -/
def sCall (F : List D → Rr) (a : Sg → Rs (List U)) : Sg → Rs U := fun Γ => (a Γ).bind fun us Γ1 => match pus us with
  | some ds => ofR (F ds) Γ1
  | none => .st
/-- the same, the new result may be changed -/
def sCallA (F : List D → Rr) (a : Sg → Rs (List U)) : Sg → Rs U := fun Γ => (a Γ).bind fun us Γ1 => match pus us with
  | some ds => ofRA (F ds) Γ1
  | none => .st
/-- f(args), cells are lent -/
def sCallB (F : List U → List Cell → Rb) (a : Sg → Rs (List U)) : Sg → Rs U := fun Γ => (a Γ).bind fun us Γ1 => match F us Γ1.mm with
  | .st => .st
  | .ok d mm => .ok (.d d) ⟨Γ1.sl, mm⟩
  | .ex x mm => .ex x ⟨Γ1.sl, mm⟩
section
variable {K : PySem.W.Frag} {W : WX} {ta : TA} {a : Sg → Rs (List U)}
theorem go_P {F : List D → Rr} {Γ : Sg} {σ : L2.St} {m : Wd} {vs : List V} {ds : List D} {Q : VK} (A : At K σ m Γ) (r : Rps K m.I vs ds) (p : Post K W σ m Γ.mm (rV K) (ofR (F ds) Γ) Q) : spP K F vs m.H Q (WE W σ) := by
  refine ⟨m.I, ds, A.ih, r, ?_⟩
  cases h : F ds with
  | st => rw [h] at p; exact p
  | ok d => rw [h] at p; exact fun I' H' v g rv => p ⟨I', H', m.as⟩ v (.g g) (A.g g) (.d rv)
  | ex x => rw [h] at p; exact fun I' H' C dx g hc hd => p ⟨I', H', m.as⟩ C dx (.g g) (A.g g) hc hd
theorem se_call {F : List D → Rr} (h : SA K W ta a) : SE K W (tCallS (spP K F) (WE W) ta) (sCall F a) := fun Γ σ m A Q p => by
  refine h.step A p fun us Γ1 m1 vs n1 A1 r1 p1 => ?_
  cases hu : pus us with
  | none => rw [hu] at p1; exact p1.elim
  | some ds => rw [hu] at p1; exact go_P A1 (RUs.pu r1 hu) p1
/-- a new result is frozen at once -/
theorem se_callF {F : List D → Rr} (h : SA K W ta a) : SE K W (tCallS (spF K F) (WE W) ta) (sCall F a) := fun Γ σ m A Q p => by
  refine h.step A p fun us Γ1 m1 vs n1 A1 r1 p1 => ?_
  cases hu : pus us with
  | none => rw [hu] at p1; exact p1.elim
  | some ds =>
    rw [hu] at p1
    refine ⟨m1.I, ds, A1.ih, RUs.pu r1 hu, ?_⟩
    dsimp only at p1
    cases h : F ds with
    | st => rw [h] at p1; exact p1
    | ok d =>
      rw [h] at p1
      intro I' H' b o g n0 h0 ho ro
      have g2 := g.frz n0 h0 ho
      exact p1 ⟨_, H', m1.as⟩ _ (.g g2) (A1.g g2) (.d ((ro.mono (Ex.new n0)).rp upd_same))
    | ex x => rw [h] at p1; exact fun I' H' C dx g hc hd => p1 ⟨I', H', m1.as⟩ C dx (.g g) (A1.g g) hc hd
theorem se_callA {F : List D → Rr} (h : SA K W ta a) : SE K W (tCallS (spF K F) (WE W) ta) (sCallA F a) := fun Γ σ m A Q p => by
  refine h.step A p fun us Γ1 m1 vs n1 A1 r1 p1 => ?_
  cases hu : pus us with
  | none => rw [hu] at p1; exact p1.elim
  | some ds =>
    rw [hu] at p1
    refine ⟨m1.I, ds, A1.ih, RUs.pu r1 hu, ?_⟩
    dsimp only at p1
    cases h : F ds with
    | st => rw [h] at p1; exact p1
    | ok d =>
      rw [h] at p1
      intro I' H' b o g n0 h0 ho ro
      have B := A1.g g
      have fr : ∀ j, live Γ1.mm j → m1.as j ≠ b := A1.fresh h0
      have C := B.push (x := .p d) ⟨n0, o, ho, ro⟩ nofun fr
      have := p1 ⟨I', H', updA m1.as Γ1.mm.length b⟩ (.ref (updA m1.as Γ1.mm.length b Γ1.mm.length)) ⟨g.i, fun a o h _ => g.ex _ _ h, fun a h _ => g.fr a h, g.th, fun j h => updA_ne (Nat.ne_of_lt h),
        by rw [List.length_append]; exact Nat.le_add_right _ _, fun j h => ?_⟩ C (.lc (by rw [List.length_append]; exact Nat.lt_succ_self _))
      · rw [updA_same] at this; exact this
      · rcases push_live h with ⟨_, h1⟩ | rfl
        · exact .inl h1
        · right
          show m1.H (updA m1.as Γ1.mm.length b Γ1.mm.length) = none
          rw [updA_same]; exact h0
    | ex x => rw [h] at p1; exact fun I' H' C dx g hc hd => p1 ⟨I', H', m1.as⟩ C dx (.g g) (A1.g g) hc hd
theorem se_callB {F : List U → List Cell → Rb} (h : SA K W ta a) : SE K W (tCallS (spB K F) (WE W) ta) (sCallB F a) := fun Γ σ m A Q p => by
  refine h.step A p fun us Γ1 m1 vs n1 A1 r1 p1 => ?_
  refine ⟨m1, us, Γ1.mm, rfl, A1.cs, r1, ?_⟩
  cases hF : F us Γ1.mm with
  | st => rw [hF] at p1; exact p1
  | ok d mm' => rw [hF] at p1; exact fun m' v nx c rv => p1 m' v nx (Cs.at_ A1 c nx) (.d rv)
  | ex x mm' => rw [hF] at p1; exact fun m' C dx nx c hc hd => p1 m' C dx nx (Cs.at_ A1 c nx) hc hd
end
/-! ### the law -/
theorem Cal.fn {P : Program} {w : World} {K : PySem.W.Frag} {mg : Str → Option Value} {base : Heap} {x qual : Str} {st : Stmt} {ps : List Str} {k : Nat} {sp : Sp} {f : Addr} {fd : FuncData} (C : Cal P w K mg base x k ps sp) (F : Fun K x qual st f fd) (hm : mg x = some (.ref f)) : FnOk P w K mg base (L2.CX P w) k f fd ps sp := by
  obtain ⟨f', fd', FF, hm', _, _, oc, od, osl, lk⟩ := C.ex
  obtain ⟨oc2, od2, kV, doc, pm, an, cdv, ct, osl2, _, lk2, _⟩ := F.ex
  rw [hm] at hm'
  cases hm'
  rw [lk] at lk2
  cases lk2
  exact FF
theorem law_fn {P : Program} {w : World} {K : PySem.W.Frag} {mg : Str → Option Value} {base : Heap} {qual : Str} {st : Stmt} {ps : List Str} {k : Nat} {FF : List D → Rr} {f : Addr} {fd : FuncData} (C : Cal P w K mg base "law" k ps (spP K FF)) (F : Fun K "law" qual st f fd) (hm : mg "law" = some (.ref f))
    (hR : ∀ ns : List Int, ns.length ≤ 63 → FF [.fl (ns.map D.int)] = .ok (.bl true)) : FnOk P w K mg base (L2.CX P w) k f fd ps (G.spLaw K) :=
  (C.fn F hm).imp fun vs H Q E h => by
    obtain ⟨a, ns, rfl, hs, hl, q⟩ := h
    refine ⟨H, [.fl (ns.map D.int)], Ex.refl H, .cons (.fl hs rps_of_ints) .nil, ?_⟩
    rw [hR ns hl]
    exact fun I' H' v _ r => by cases r; exact q H'
end S

namespace S
open PySem PySem.Spec L2 PyProof.Rows
open G (Ex Gr ex_l ex_t ExnAt exx exx_ok GlobIs)
theorem u65 {k : Nat} {A : Around} (r : Room k A) : A.units + 65 < cLine := by have := r.un; omega
theorem _root_.L2.Room.units1 {k : Nat} {A : Around} (r : Room k A) : A.units + 1 < cLine := by have := r.un; omega
theorem cx_no {P : Program} {w : World} {H : Hp} {s : Shared} {e : Value} {s' : Shared} (h : L2.CX P w [] H s (fun _ _ _ => False) e s') : False := by
  obtain ⟨_, _, _, _, _, _, _, _, _, _, _, _, z⟩ := h
  exact z
/-! ### defs by their length -/
def defP (k n : Nat) (body : Sg → Rs Fl) : List D → Rr := fun ds => if ds.length = k then runP n body ds else .st
def defF (k n : Nat) (body : Sg → Rs Fl) : List D → Rr := fun ds => if ds.length = k then runF n body ds else .st
def defB (k n : Nat) (body : Sg → Rs Fl) : List U → List Cell → Rb := fun us mm => if us.length = k then runB n body us mm else .st
section
variable {P : Program} {w : World} {K : PySem.W.Frag} {mg : Str → Option Value} {base : Heap} {x qual : Str} {st : Stmt} {N ps : List Str} {k n j : Nat} {body : Sg → Rs Fl}
theorem okd_P (D1 : G.DefAt K mg x qual st ps) (S : FnScope N ps (defScope st)) (hN : N.length = n) (hp : ps.length = j) (hb : ∀ f, BodyOk P w K mg base N qual st f k body) : Cal P w K mg base x (k + 1) ps (spP K (defP j n body)) :=
  ok_P D1 S hN (fun ds h => by
    unfold defP at h ⊢
    split
    · rename_i hl; exact ⟨rfl, hl.trans hp.symm⟩
    · rename_i hl; rw [if_neg hl] at h; exact absurd rfl h) hb
theorem okd_F (D1 : G.DefAt K mg x qual st ps) (S : FnScope N ps (defScope st)) (hN : N.length = n) (hp : ps.length = j) (hb : ∀ f, BodyOk P w K mg base N qual st f k body) : Cal P w K mg base x (k + 1) ps (spF K (defF j n body)) :=
  ok_F D1 S hN (fun ds h => by
    unfold defF at h ⊢
    split
    · rename_i hl; exact ⟨rfl, hl.trans hp.symm⟩
    · rename_i hl; rw [if_neg hl] at h; exact absurd rfl h) hb
theorem okd_B (D1 : G.DefAt K mg x qual st ps) (S : FnScope N ps (defScope st)) (hN : N.length = n) (hp : ps.length = j) (hb : ∀ f, BodyOk P w K mg base N qual st f k body) : Cal P w K mg base x (k + 1) ps (spB K (defB j n body)) :=
  ok_B D1 S hN (fun us mm h => by
    unfold defB at h ⊢
    split
    · rename_i hl; exact ⟨rfl, hl.trans hp.symm⟩
    · rename_i hl; rw [if_neg hl] at h; exact absurd rfl h) hb
end
/-! ### a, b = e, f -/
def sPar (i j : Nat) (a b : Sg → Rs U) : Sg → Rs Fl := fun Γ => (a Γ).bind fun x Γ1 => (b Γ1).bind fun y Γ2 => .ok .nx ⟨(Γ2.sl.set i (some x)).set j (some y), Γ2.mm⟩
section
variable {K : PySem.W.Frag} {W : WX} {ta tb : TE} {a b : Sg → Rs U} {i j : Nat}
theorem ss_par (h1 : SE K W ta a) (h2 : SE K W tb b) : SS K W (tPar i j (tCons ta (tCons tb tNil))) (sPar i j a b) := fun Γ σ m De A p => by
  refine h1.stepS A p fun x Γ1 m1 v n1 A1 r1 p1 => h2.stepS A1 p1 fun y Γ2 m2 w n2 A2 r2 p2 => ?_
  refine ⟨v, w, rfl, p2 _ m2 .refl ?_⟩
  exact (A2.set (RU.mono n2 r1)).set (i := j) r2
end
/-! ### tuples of texts of the module -/
/-- a written tuple of texts -/
theorem kt_strs {K : PySem.W.Frag} {a : Addr} {od : Option Addr} {its : Array Value} {n : Nat} {sl : Array (Option Value)} {ss : List Str} (h : K.lookup a = some ⟨.type "tuple", od, .seq its n, sl⟩) (hl : its.size ≤ sizeLine) (hv : Vals (ss.map V.str) its.toList) (I : Hp) : Rp K I (.ref a) (.kt (ss.map D.str)) :=
  .kt (.inr ⟨_, its, n, h, rfl, rfl, hl, hv⟩) rps_of_strs
/-! ### D.get(x, y), D a written dict of texts by texts -/
structure KTab (K : PySem.W.Frag) (w : World) (d : Addr) (tbl : List (Str × Str)) : Prop where
  ex : ∃ (es : Array DictEntry) (n : Nat), K.lookup d = some ⟨.type "dict", none, .dict es n, #[]⟩ ∧ Paired (fun (p : Str × Str) (e : DictEntry) => (∃ t, e.key = .str p.1 t ∧ e.hash = PyData.keyHash w.params p.1) ∧ ∃ t, e.val = .str p.2 t) tbl es.toList
  low : (d == sysModules) = false
theorem ktab_lit {w : World} : ∀ {tbl : List (Str × Str)} {es : List DictEntry}, Paired (fun (p : Str × Str) (e : DictEntry) => (∃ t, e.key = .str p.1 t ∧ e.hash = PyData.keyHash w.params p.1) ∧ ∃ t, e.val = .str p.2 t) tbl es → PySem.W.KeysLit w.params es
  | _, _, .nil => trivial
  | _, _, .cons h r => ⟨⟨_, h.1⟩, ktab_lit r⟩
theorem ktab_find {w : World} {s : Str} : ∀ {tbl : List (Str × Str)} {es : List DictEntry}, Paired (fun (p : Str × Str) (e : DictEntry) => (∃ t, e.key = .str p.1 t ∧ e.hash = PyData.keyHash w.params p.1) ∧ ∃ t, e.val = .str p.2 t) tbl es →
    (∀ r, tbl.lookup s = some r → ∃ t, (es.find? fun e => Value.isStrOf s e.key).map (·.val) = some (.str r t)) ∧ (tbl.lookup s = none → (es.find? fun e => Value.isStrOf s e.key).map (·.val) = none)
  | _, _, .nil => ⟨fun r h => by simp at h, fun _ => rfl⟩
  | (k, v) :: tbl, e :: es, .cons h r => by
    have ih := ktab_find (s := s) r
    obtain ⟨⟨t, hk, _⟩, t2, hv⟩ := h
    dsimp only at hk hv
    by_cases z : s = k
    · subst z
      have e1 : Value.isStrOf s e.key = true := by rw [hk]; simp [Value.isStrOf]
      refine ⟨fun q hq => ?_, fun hq => ?_⟩
      · simp [List.lookup] at hq
        subst hq
        rw [List.find?_cons_of_pos (p := fun e => Value.isStrOf s e.key) (a := e) e1]
        exact ⟨t2, by rw [← hv]; rfl⟩
      · simp [List.lookup] at hq
    · have e1 : ¬ Value.isStrOf s e.key = true := by
        rw [hk]; simp [Value.isStrOf]; exact fun q => z q.symm
      have e2 : (s == k) = false := by simpa using z
      rw [List.find?_cons_of_neg (p := fun e => Value.isStrOf s e.key) (a := e) e1]
      simp only [List.lookup, e2]
      exact ih
def tKGet (tbl : List (Str × Str)) (te tf : TE) : TE := fun σ H Q => te σ H fun y H1 => tf σ H1 fun z H2 => ∃ s, y = .str s ∧ Q (match tbl.lookup s with | some r => .str r | none => z) H2
theorem pe_kget {X : Cx} {D : Addr} {x : Str} {tbl : List (Str × Str)} {e f : Expr} {te tf : TE} {p apos cpos : Pos} (T : KTab X.K X.w D tbl) (hg : Gl X x) (hm : X.mg x = some (.ref D)) (he : PE X e te) (hf : PE X f tf) (m : M2 X (.Name x p) "get" apos e f cpos) (hdb : (x == ("__debug__" : Str)) = false := by decide) :
    PE X (.Call (.Attribute (.Name x p) "get" apos) [e, f] [] cpos) (tKGet tbl te tf) := by
  refine ⟨fun pins s σ H Q I h => ?_⟩
  obtain ⟨es, n, hl, hp⟩ := T.ex
  have M := fun {h : Heap} (k : X.K.In h) => PySem.W.mapOf_K (prog := X.prog) (w := X.w) k hl (ktab_lit hp)
  refine wpAny_Call_method m.base m.few m.line PySem.F.plainAttrs_dict PySem.F.slot_dict_get PySem.F.type_dict_get (ld_glob I hg hm ?_ hdb)
  refine ⟨(M I.kIn).typeIs, fun b q => ?_, ?_⟩
  · cases q
    exact ⟨_, I.kIn _ _ hl, rfl⟩
  rw [m.trees]
  refine Calls.callWith_builtin rfl (Calls.evalArgs_plain (Calls.spliced_cons (thn (he.run pins s σ H _ I h) fun iv s2 ⟨y, H2, I2, ry, q2⟩ =>
    Calls.spliced_cons (thn (hf.run pins s2 σ H2 _ I2 q2) fun fv s3 ⟨z, H3, I3, rz, st, ey, q3⟩ => Calls.spliced_nil ?_))))
  subst ey
  obtain ⟨t, rfl⟩ := ry
  refine call_meetsIn PySem.F.slot_dict_get (M I3.kIn).typeIs PySem.F.entry_dict_get (PySem.F.args_dict_get_3 _ _ _) (meets_dict_get_default (strKind X.prog X.w) D (PySem.strKind_is X.prog X.w st t) T.low fv) ⟨_, M I3.kIn, ?_⟩
  have k := ktab_find (s := st) hp
  have key : findBy Value.isStrOf es st = (es.toList.find? fun e => Value.isStrOf st e.key).map (·.val) := by unfold findBy; rw [Array.find?_toList]
  refine ⟨_, H3, I3.tok _, ?_, q3⟩
  show RelV _ ((findBy Value.isStrOf es st).getD fv)
  rw [key]
  cases hq : tbl.lookup st with
  | none => rw [k.2 hq]; exact rz
  | some r => obtain ⟨t2, h2⟩ := k.1 r hq; rw [h2]; exact ⟨t2, rfl⟩
def sKGet (tbl : List (Str × Str)) (a b : Sg → Rs U) : Sg → Rs U := fun Γ => (a Γ).bind fun x Γ1 => (b Γ1).bind fun y Γ2 => match x with
  | .d (.str s) => (match tbl.lookup s with
    | some r => .ok (.d (.str r)) Γ2
    | none => .ok y Γ2)
  | _ => .st
theorem se_kget {K : PySem.W.Frag} {W : WX} {ta tb : TE} {a b : Sg → Rs U} {tbl : List (Str × Str)} (h1 : SE K W ta a) (h2 : SE K W tb b) : SE K W (tKGet tbl ta tb) (sKGet tbl a b) := fun Γ σ m A Q p => by
  refine h1.step A p fun x Γ1 m1 v n1 A1 r1 p1 => h2.step A1 p1 fun y Γ2 m2 w n2 A2 r2 p2 => ?_
  cases x with
  | lc _ => exact p2.elim
  | d x =>
    cases x <;> first | exact p2.elim | skip
    rename_i s
    cases r1 with
    | d r1 =>
      cases r1
      refine ⟨s, rfl, ?_⟩
      dsimp only at p2
      cases hq : tbl.lookup s with
      | none => rw [hq] at p2; exact p2 m2 w .refl A2 r2
      | some r => rw [hq] at p2; exact p2 m2 _ .refl A2 (.d (.str r))
end S

namespace S
open PySem PySem.Spec L2
/-! ### shadows, run -/
section
variable {α β : Type}
@[simp ↓] theorem bind_ev (r : Rs α) (f : α → Sg → Rs β) : r.bind f = match r with
  | .st => .st
  | .ok a g => f a g
  | .ex x g => .ex x g := rfl
@[simp ↓] theorem obind_ev (o : Option α) (f : α → Option β) : o.bind f = match o with
  | none => none
  | some a => f a := by cases o <;> rfl
@[simp] theorem bind_ok (a : α) (g : Sg) (f : α → Sg → Rs β) : (Rs.ok a g).bind f = f a g := rfl
@[simp] theorem bind_st (f : α → Sg → Rs β) : (Rs.st : Rs α).bind f = .st := rfl
@[simp] theorem bind_ex (x : Xn) (g : Sg) (f : α → Sg → Rs β) : (Rs.ex x g : Rs α).bind f = .ex x g := rfl
end
section
variable (Γ : Sg) (a b c : Sg → Rs U) (i j : Nat)
@[simp ↓] theorem sVar_ev (sl : List (Option U)) (mm : List Cell) : sVar i ⟨sl, mm⟩ = match sl[i]? with
  | some (some u) => .ok u ⟨sl, mm⟩
  | _ => .st := rfl
@[simp ↓] theorem sC_ev (d : D) : sC d Γ = .ok (.d d) Γ := rfl
@[simp ↓] theorem sOp_ev (f : D → D → Option D) : sOp f a b Γ = (a Γ).bind fun x Γ1 => (b Γ1).bind fun y Γ2 => ofO ((dr Γ2.mm x).bind fun x => (dr Γ2.mm y).bind fun y => f x y) Γ2 := rfl
@[simp ↓] theorem sOpA_ev (f : D → D → Option D) : sOpA f a b Γ = (a Γ).bind fun x Γ1 => (b Γ1).bind fun y Γ2 => ofA ((dr Γ2.mm x).bind fun x => (dr Γ2.mm y).bind fun y => f x y) Γ2 := rfl
@[simp ↓] theorem sUn_ev (f : D → Option D) : sUn f a Γ = (a Γ).bind fun x Γ1 => ofO ((dr Γ1.mm x).bind f) Γ1 := rfl
@[simp ↓] theorem sCb_ev (f : List D → Option D) (a : Sg → Rs (List U)) : sCb f a Γ = (a Γ).bind fun xs Γ1 => ofO ((drs Γ1.mm xs).bind f) Γ1 := rfl
@[simp ↓] theorem sCbA_ev (f : List D → Option D) (a : Sg → Rs (List U)) : sCbA f a Γ = (a Γ).bind fun xs Γ1 => ofA ((drs Γ1.mm xs).bind f) Γ1 := rfl
@[simp ↓] theorem sNil_ev : sNil Γ = .ok [] Γ := rfl
@[simp ↓] theorem sCons_ev (r : Sg → Rs (List U)) : sCons a r Γ = (a Γ).bind fun x Γ1 => (r Γ1).bind fun xs Γ2 => .ok (x :: xs) Γ2 := rfl
@[simp ↓] theorem sTup_ev (a : Sg → Rs (List U)) : sTup a Γ = (a Γ).bind fun xs Γ1 => ofO ((pus xs).bind fun ds => if ds.length ≤ sizeLine then some (.tup ds) else none) Γ1 := rfl
@[simp ↓] theorem sLst_ev (a : Sg → Rs (List U)) : sLst a Γ = (a Γ).bind fun xs Γ1 => ofO ((pus xs).bind fun ds => if ds.length ≤ sizeLine then some (.lst ds) else none) Γ1 := rfl
@[simp ↓] theorem sLstA_ev (a : Sg → Rs (List U)) : sLstA a Γ = (a Γ).bind fun xs Γ1 => ofA ((pus xs).bind fun ds => if ds.length ≤ sizeLine then some (.lst ds) else none) Γ1 := rfl
@[simp ↓] theorem tB1_ev : tB1 a Γ = (a Γ).bind fun x Γ1 => ofB (tr1 Γ1.mm x) Γ1 := rfl
@[simp ↓] theorem tNot1_ev (a : Sg → Rs Bool) : tNot1 a Γ = (a Γ).bind fun x Γ1 => .ok (!x) Γ1 := rfl
@[simp ↓] theorem tAnd1_ev (a b : Sg → Rs Bool) : tAnd1 a b Γ = (a Γ).bind fun x Γ1 => if x then b Γ1 else .ok false Γ1 := rfl
@[simp ↓] theorem tOr1_ev (a b : Sg → Rs Bool) : tOr1 a b Γ = (a Γ).bind fun x Γ1 => if x then .ok true Γ1 else b Γ1 := rfl
@[simp ↓] theorem tYes1_ev : tYes1 Γ = .ok true Γ := rfl
@[simp ↓] theorem sAnd_ev : sAnd a b Γ = (a Γ).bind fun x Γ1 => match tr1 Γ1.mm x with
  | some true => b Γ1
  | some false => .ok (.d (.bl false)) Γ1
  | none => .st := rfl
@[simp ↓] theorem sOr_ev : sOr a b Γ = (a Γ).bind fun x Γ1 => match tr1 Γ1.mm x with
  | some true => .ok (.d (.bl true)) Γ1
  | some false => b Γ1
  | none => .st := rfl
@[simp ↓] theorem sNot_ev : sNot a Γ = (a Γ).bind fun x Γ1 => match tr1 Γ1.mm x with
  | some k => .ok (.d (.bl (!k))) Γ1
  | none => .st := rfl
@[simp ↓] theorem sIfE_ev (t : Sg → Rs Bool) : sIfE t a b Γ = (t Γ).bind fun x Γ1 => if x then a Γ1 else b Γ1 := rfl
@[simp ↓] theorem sChain_ev (f g : D → D → Option D) : sChain f g a b c Γ = (a Γ).bind fun x Γ1 => (b Γ1).bind fun y Γ2 => match (dr Γ2.mm x).bind fun x => (dr Γ2.mm y).bind fun y => f x y with
  | some (.bl true) => (c Γ2).bind fun z Γ3 => ofO ((dr Γ3.mm y).bind fun y => (dr Γ3.mm z).bind fun z => g y z) Γ3
  | some (.bl false) => .ok (.d (.bl false)) Γ2
  | _ => .st := rfl
@[simp ↓] theorem oNone_ev : oNone Γ = .ok none Γ := rfl
@[simp ↓] theorem oSome_ev : oSome a Γ = (a Γ).bind fun x Γ1 => match dr Γ1.mm x with
  | some (.int i) => .ok (some i) Γ1
  | _ => .st := rfl
@[simp ↓] theorem sSl_ev (f : D → Option Int → Option Int → Option D) (l h : Sg → Rs (Option Int)) : sSl f a l h Γ = (a Γ).bind fun x Γ1 => (l Γ1).bind fun lo Γ2 => (h Γ2).bind fun hi Γ3 => ofO ((dr Γ3.mm x).bind fun x => f x lo hi) Γ3 := rfl
@[simp ↓] theorem sSlA_ev (f : D → Option Int → Option Int → Option D) (l h : Sg → Rs (Option Int)) : sSlA f a l h Γ = (a Γ).bind fun x Γ1 => (l Γ1).bind fun lo Γ2 => (h Γ2).bind fun hi Γ3 => ofA ((dr Γ3.mm x).bind fun x => f x lo hi) Γ3 := rfl
@[simp ↓] theorem sIx_ev : sIx a b Γ = (a Γ).bind fun x Γ1 => (b Γ1).bind fun y Γ2 => match x with
  | .d x => ofO ((dr Γ2.mm y).bind fun y => ixD x y) Γ2
  | .lc j => match Γ2.mm[j]? with
    | some (.p x) => ofO ((dr Γ2.mm y).bind fun y => ixD x y) Γ2
    | some (.n us) => (match y with
      | .d (.int i) => (match atI us i with
        | some u => .ok u Γ2
        | none => .st)
      | _ => .st)
    | _ => .st := rfl
@[simp ↓] theorem sM1_ev (f : D → D → Option D) : sM1 f a b Γ = (a Γ).bind fun x Γ1 => match x with
  | .d (.str s) => (b Γ1).bind fun y Γ2 => ofO ((dr Γ2.mm y).bind fun y => f (.str s) y) Γ2
  | _ => .st := rfl
@[simp ↓] theorem sM1A_ev (f : D → D → Option D) : sM1A f a b Γ = (a Γ).bind fun x Γ1 => match x with
  | .d (.str s) => (b Γ1).bind fun y Γ2 => ofA ((dr Γ2.mm y).bind fun y => f (.str s) y) Γ2
  | _ => .st := rfl
@[simp ↓] theorem sM0_ev (f : D → Option D) : sM0 f a Γ = (a Γ).bind fun x Γ1 => match x with
  | .d (.str s) => ofO (f (.str s)) Γ1
  | _ => .st := rfl
@[simp ↓] theorem iU_ev : iU a Γ = (a Γ).bind fun u Γ1 => match (pu u).bind itU with
  | some ds => .ok ds Γ1
  | none => .st := rfl
@[simp ↓] theorem iCa_ev (f : List D → Option (List D)) (a : Sg → Rs (List U)) : iCa f a Γ = (a Γ).bind fun us Γ1 => match (pus us).bind f with
  | some ds => .ok ds Γ1
  | none => .st := rfl
@[simp ↓] theorem sApp_ev : sApp a b Γ = (a Γ).bind fun u Γ1 => if isLc Γ1.mm u then (b Γ1).bind fun w Γ2 => (match u with
  | .lc j => (match Γ2.mm[j]? with
    | some (.p (.lst ds)) => (match pu w with
      | some d => if ds.length < sizeLine then .ok (.d .non) ⟨Γ2.sl, Γ2.mm.set j (.p (.lst (ds ++ [d])))⟩ else .st
      | none => .st)
    | some (.n us) => if us.length < sizeLine then .ok (.d .non) ⟨Γ2.sl, Γ2.mm.set j (.n (us ++ [w]))⟩ else .st
    | _ => .st)
  | _ => .st) else .st := rfl
@[simp ↓] theorem sSetL_ev : sSetL a b c Γ = (a Γ).bind fun w Γ1 => (b Γ1).bind fun u Γ2 => (c Γ2).bind fun k Γ3 => match u, k with
  | .lc j, .d (.int k) => (match Γ3.mm[j]? with
    | some (.p (.lst ds)) => (match pu w, ixN ds.length k with
      | some d, some n => .ok .nx ⟨Γ3.sl, Γ3.mm.set j (.p (.lst (ds.set n d)))⟩
      | _, _ => .st)
    | some (.n us) => (match ixN us.length k with
      | some n => .ok .nx ⟨Γ3.sl, Γ3.mm.set j (.n (us.set n w))⟩
      | _ => .st)
    | _ => .st)
  | _, _ => .st := rfl
@[simp ↓] theorem sSetD_ev : sSetD a b c Γ = (a Γ).bind fun w Γ1 => (b Γ1).bind fun u Γ2 => (c Γ2).bind fun k Γ3 => match u, k, w with
  | .lc j, .d k, .d w => (match Γ3.mm[j]? with
    | some (.p x) => (match putD x k w with
      | some y => .ok .nx ⟨Γ3.sl, Γ3.mm.set j (.p y)⟩
      | none => .st)
    | _ => .st)
  | _, _, _ => .st := rfl
@[simp ↓] theorem sDK_ev : sDK Γ = .ok (.d (.dic [] [])) Γ := rfl
@[simp ↓] theorem sDKA_ev : sDKA Γ = .ok (.lc Γ.mm.length) ⟨Γ.sl, Γ.mm ++ [.p (.dic [] [])]⟩ := rfl
@[simp ↓] theorem pN_ev : pN Γ = .ok ([], []) Γ := rfl
@[simp ↓] theorem pC_ev (r : Sg → Rs (List Key × List D)) : pC a b r Γ = (a Γ).bind fun x Γ1 => (b Γ1).bind fun y Γ2 => match (pu x).bind keyOf, pu y with
  | some key, some d => (r Γ2).bind fun kd Γ3 => .ok (key :: kd.1, d :: kd.2) Γ3
  | _, _ => .st := rfl
@[simp ↓] theorem sDisp_ev (r : Sg → Rs (List Key × List D)) : sDisp r Γ = (r Γ).bind fun kd Γ1 => if kd.1.Nodup ∧ kd.1.length ≤ 15 then .ok (.d (.dic kd.1 kd.2)) Γ1 else .st := rfl
@[simp ↓] theorem sCall_ev (F : List D → Rr) (a : Sg → Rs (List U)) : sCall F a Γ = (a Γ).bind fun us Γ1 => match pus us with
  | some ds => ofR (F ds) Γ1
  | none => .st := rfl
@[simp ↓] theorem sCallA_ev (F : List D → Rr) (a : Sg → Rs (List U)) : sCallA F a Γ = (a Γ).bind fun us Γ1 => match pus us with
  | some ds => ofRA (F ds) Γ1
  | none => .st := rfl
@[simp ↓] theorem sCallB_ev (F : List U → List Cell → Rb) (a : Sg → Rs (List U)) : sCallB F a Γ = (a Γ).bind fun us Γ1 => match F us Γ1.mm with
  | .st => .st
  | .ok d mm => .ok (.d d) ⟨Γ1.sl, mm⟩
  | .ex x mm => .ex x ⟨Γ1.sl, mm⟩ := rfl
@[simp ↓] theorem sKGet_ev (tbl : List (Str × Str)) : sKGet tbl a b Γ = (a Γ).bind fun x Γ1 => (b Γ1).bind fun y Γ2 => match x with
  | .d (.str s) => (match tbl.lookup s with
    | some r => .ok (.d (.str r)) Γ2
    | none => .ok y Γ2)
  | _ => .st := rfl
@[simp ↓] theorem sNx_ev : sNx Γ = .ok .nx Γ := rfl
@[simp ↓] theorem sBk_ev : sBk Γ = .ok .bk Γ := rfl
@[simp ↓] theorem sCt_ev : sCt Γ = .ok .ct Γ := rfl
@[simp ↓] theorem sSeq_ev (a b : Sg → Rs Fl) : sSeq a b Γ = match a Γ with
  | .ok .nx Γ1 => b Γ1
  | r => r := rfl
@[simp ↓] theorem sIf_ev (t : Sg → Rs Bool) (a b : Sg → Rs Fl) : sIf t a b Γ = (t Γ).bind fun x Γ1 => if x then a Γ1 else b Γ1 := rfl
@[simp ↓] theorem sAsg_ev (tg : U → Sg → Option Sg) : sAsg a tg Γ = (a Γ).bind fun u Γ1 => match tg u Γ1 with
  | some Γ2 => .ok .nx Γ2
  | none => .st := rfl
@[simp ↓] theorem sDrop_ev : sDrop a Γ = (a Γ).bind fun _ Γ1 => .ok .nx Γ1 := rfl
@[simp ↓] theorem sRet_ev : sRet a Γ = (a Γ).bind fun u Γ1 => match pu u with
  | some d => .ok (.rt d) Γ1
  | none => .st := rfl
@[simp ↓] theorem sRetN_ev : sRetN Γ = .ok (.rt .non) Γ := rfl
@[simp ↓] theorem sFz_ev : sFz a Γ = (a Γ).bind fun u Γ1 => match u with
  | .d d => .ok (.d d) Γ1
  | .lc j => match Γ1.mm[j]? with
    | some (.p d) => .ok (.d d) (fz j d Γ1)
    | _ => .st := rfl
@[simp ↓] theorem sRetF_ev : sRetF a Γ = (a Γ).bind fun u Γ1 => match u with
  | .lc j => (match Γ1.mm[j]? with
    | some (.p d) => .ok (.rf j d) Γ1
    | _ => .st)
  | _ => .st := rfl
@[simp ↓] theorem sPar_ev : sPar i j a b Γ = (a Γ).bind fun x Γ1 => (b Γ1).bind fun y Γ2 => .ok .nx ⟨(Γ2.sl.set i (some x)).set j (some y), Γ2.mm⟩ := rfl
@[simp ↓] theorem gN_ev (u : U) : gN i u Γ = some ⟨Γ.sl.set i (some u), Γ.mm⟩ := rfl
@[simp ↓] theorem gT_ev (n : Nat) (gs : List D → Sg → Option Sg) (ds : List D) : gT n gs (.d (.tup ds)) Γ = if ds.length = n then gs ds Γ else none := rfl
@[simp ↓] theorem gsN_ev : gsN [] Γ = some Γ := rfl
@[simp ↓] theorem gsC_ev (g : U → Sg → Option Sg) (gs : List D → Sg → Option Sg) (d : D) (ds : List D) : gsC g gs (d :: ds) Γ = (g (.d d) Γ).bind fun Γ1 => gs ds Γ1 := rfl
@[simp ↓] theorem sFor_ev (fg : List Nat) (src : Sg → Rs (List D)) (tg : U → Sg → Option Sg) (body : Sg → Rs Fl) : sFor fg src tg body Γ = (src Γ).bind fun xs Γ1 => forL fg tg body xs Γ1 := rfl
@[simp ↓] theorem sLc_ev (src : Sg → Rs (List D)) (tg : U → Sg → Option Sg) (tt : Sg → Rs Bool) (te : Sg → Rs U) (vs : List Nat) : sLc src tg tt te vs Γ = (src Γ).bind fun xs Γ1 => if xs.length ≤ 10000000 then (match lcL Γ1.sl vs tg tt te xs Γ1 [] with
    | .ok ds Γ2 => .ok (.d (.lst ds)) Γ2
    | _ => .st) else .st := rfl
@[simp ↓] theorem sLcA_ev (src : Sg → Rs (List D)) (tg : U → Sg → Option Sg) (tt : Sg → Rs Bool) (te : Sg → Rs U) (vs : List Nat) : sLcA src tg tt te vs Γ = (src Γ).bind fun xs Γ1 => if xs.length ≤ 10000000 then (match lcL Γ1.sl vs tg tt te xs Γ1 [] with
    | .ok ds Γ2 => .ok (.lc Γ2.mm.length) ⟨Γ2.sl, Γ2.mm ++ [.p (.lst ds)]⟩
    | _ => .st) else .st := rfl
end
@[simp] theorem fgt_nil (sl : List (Option U)) : fgt [] sl = sl := rfl
@[simp] theorem fgt_cons (i : Nat) (is : List Nat) (sl : List (Option U)) : fgt (i :: is) sl = (fgt is sl).set i none := rfl
@[simp] theorem Sg_fg (sl : List (Option U)) (mm : List Cell) (is : List Nat) : (Sg.mk sl mm).fg is = ⟨fgt is sl, mm⟩ := rfl
@[simp] theorem wipeS_nil (sl : List (Option U)) : wipeS sl [] = sl := rfl
@[simp] theorem wipeS_cons (i : Nat) (is : List Nat) (sl : List (Option U)) : wipeS sl (i :: is) = (wipeS sl is).set i none := rfl
@[simp] theorem drs_nil (mm : List Cell) : drs mm [] = some [] := rfl
@[simp] theorem drs_cons (mm : List Cell) (u : U) (us : List U) : drs mm (u :: us) = (dr mm u).bind fun d => (drs mm us).bind fun ds => some (d :: ds) := rfl
@[simp] theorem pus_nil : pus [] = some [] := rfl
@[simp] theorem pus_cons (u : U) (us : List U) : pus (u :: us) = (pu u).bind fun d => (pus us).bind fun ds => some (d :: ds) := rfl
@[simp] theorem dr_lc {mm : List Cell} {j : Nat} {d : D} (h : mm[j]? = some (.p d)) : dr mm (.lc j) = some d := by simp [dr, h]
@[simp] theorem get_set {mm : List Cell} {j : Nat} {c c' : Cell} (h : mm[j]? = some c) : (mm.set j c')[j]? = some c' := by
  have := (List.getElem?_eq_some_iff.mp h).1
  simp [this]
@[simp] theorem isLc_d (mm : List Cell) (d : D) : isLc mm (.d d) = false := rfl
@[simp] theorem isLc_p {mm : List Cell} {j : Nat} {ds : List D} (h : mm[j]? = some (.p (.lst ds))) : isLc mm (.lc j) = true := by simp [isLc, h]
@[simp] theorem isLc_n {mm : List Cell} {j : Nat} {us : List U} (h : mm[j]? = some (.n us)) : isLc mm (.lc j) = true := by simp [isLc, h]
/-! ### loops, run -/
theorem forL_inv {fg : List Nat} {tg : U → Sg → Option Sg} {body : Sg → Rs Fl} {xs : List D} (P : Sg → Prop)
    (h : ∀ x ∈ xs, ∀ Γ, P Γ → ∃ Γ1 Γ2, tg (.d x) Γ = some Γ1 ∧ (body Γ1 = .ok .nx Γ2 ∨ body Γ1 = .ok .ct Γ2) ∧ P (Γ2.fg fg)) (Γ : Sg) (h0 : P (Γ.fg fg)) : ∃ Γ', forL fg tg body xs Γ = .ok .nx Γ' ∧ P Γ' := by
  induction xs generalizing Γ with
  | nil => exact ⟨_, rfl, h0⟩
  | cons x xs ih =>
    obtain ⟨Γ1, Γ2, h1, h2, h3⟩ := h x (List.mem_cons_self ..) _ h0
    obtain ⟨Γ', h4, h5⟩ := ih (fun y hy => h y (List.mem_cons_of_mem _ hy)) Γ2 h3
    refine ⟨Γ', ?_, h5⟩
    rw [forL, h1]
    dsimp only
    rcases h2 with h2 | h2 <;> rw [h2] <;> exact h4
def lcStep (sl : List (Option U)) (vs : List Nat) (tg : U → Sg → Option Sg) (tt : Sg → Rs Bool) (te : Sg → Rs U) (x : D) (mm : List Cell) : Option (Option D × List Cell) := match tg (.d x) ⟨wipeS sl vs, mm⟩ with
  | none => none
  | some Γ1 => match tt Γ1 with
    | .ok false Γ2 => some (none, Γ2.mm)
    | .ok true Γ2 => (match te Γ2 with
      | .ok (.d d) Γ3 => some (some d, Γ3.mm)
      | _ => none)
    | _ => none
theorem lcL_one {sl : List (Option U)} {vs : List Nat} {tg : U → Sg → Option Sg} {tt : Sg → Rs Bool} {te : Sg → Rs U} {x : D} {xs acc : List D} {mm mm' : List Cell} {sl' : List (Option U)} {o : Option D} (h : lcStep sl vs tg tt te x mm = some (o, mm')) :
    lcL sl vs tg tt te (x :: xs) ⟨sl', mm⟩ acc = lcL sl vs tg tt te xs ⟨sl, mm'⟩ (acc ++ o.toList) := by
  rw [lcL]
  revert h
  rw [lcStep]
  dsimp only
  cases tg (.d x) ⟨wipeS sl vs, mm⟩ with
  | none => exact fun h => nomatch h
  | some Γ1 =>
    dsimp only
    cases tt Γ1 with
    | st => exact fun h => nomatch h
    | ex _ _ => exact fun h => nomatch h
    | ok b Γ2 =>
      cases b with
      | false =>
        intro h
        cases h
        simp
      | true =>
        dsimp only
        cases te Γ2 with
        | st => exact fun h => nomatch h
        | ex _ _ => exact fun h => nomatch h
        | ok u Γ3 =>
          cases u with
          | lc _ => exact fun h => nomatch h
          | d d =>
            intro h
            cases h
            rfl
theorem lcL_fm {sl : List (Option U)} {vs : List Nat} {tg : U → Sg → Option Sg} {tt : Sg → Rs Bool} {te : Sg → Rs U} {mm : List Cell} (g : D → Option D) {xs : List D} (h : ∀ x ∈ xs, lcStep sl vs tg tt te x mm = some (g x, mm)) : ∀ acc, lcL sl vs tg tt te xs ⟨sl, mm⟩ acc = .ok (acc ++ xs.filterMap g) ⟨sl, mm⟩ := by
  induction xs with
  | nil => intro acc; simp [lcL]
  | cons x xs ih =>
    intro acc
    rw [lcL_one (h x (List.mem_cons_self ..)), ih fun y hy => h y (List.mem_cons_of_mem _ hy)]
    cases hx : g x <;> simp [hx]
theorem lcL_map {sl : List (Option U)} {vs : List Nat} {tg : U → Sg → Option Sg} {tt : Sg → Rs Bool} {te : Sg → Rs U} {mm : List Cell} (f : D → D) {xs : List D} (h : ∀ x ∈ xs, lcStep sl vs tg tt te x mm = some (some (f x), mm)) (acc : List D) : lcL sl vs tg tt te xs ⟨sl, mm⟩ acc = .ok (acc ++ xs.map f) ⟨sl, mm⟩ := by
  rw [lcL_fm (fun x => some (f x)) h]
  simp
theorem lcL_inv {sl : List (Option U)} {vs : List Nat} {tg : U → Sg → Option Sg} {tt : Sg → Rs Bool} {te : Sg → Rs U} {xs : List D} (I : Nat → List Cell → Prop) (Pd : D → Prop)
    (h : ∀ x ∈ xs, ∀ k mm, k < xs.length → I k mm → ∃ d mm', lcStep sl vs tg tt te x mm = some (some d, mm') ∧ Pd d ∧ I (k + 1) mm') {mm : List Cell} (h0 : I 0 mm) :
    ∃ ds mm', lcL sl vs tg tt te xs ⟨sl, mm⟩ [] = .ok ds ⟨sl, mm'⟩ ∧ ds.length = xs.length ∧ (∀ d ∈ ds, Pd d) ∧ I xs.length mm' := by
  suffices H : ∀ (ys : List D) (k : Nat) (mm : List Cell) (acc : List D), (∀ y ∈ ys, y ∈ xs) → k + ys.length = xs.length → I k mm → ∃ ds mm', lcL sl vs tg tt te ys ⟨sl, mm⟩ acc = .ok (acc ++ ds) ⟨sl, mm'⟩ ∧ ds.length = ys.length ∧ (∀ d ∈ ds, Pd d) ∧ I xs.length mm' by
    obtain ⟨ds, mm', h1, h2, h3, h4⟩ := H xs 0 mm [] (fun _ h => h) (Nat.zero_add _) h0
    exact ⟨ds, mm', by simpa using h1, h2, h3, h4⟩
  intro ys
  induction ys with
  | nil => intro k mm acc _ hk hi; exact ⟨[], mm, by simp [lcL], rfl, (fun _ h => nomatch h), by rw [← hk]; exact hi⟩
  | cons y ys ih =>
    intro k mm acc hs hk hi
    rw [List.length_cons] at hk
    obtain ⟨d, mm1, h1, h2, h3⟩ := h y (hs y (List.mem_cons_self ..)) k mm (by omega) hi
    obtain ⟨ds, mm', h4, h5, h6, h7⟩ := ih (k + 1) mm1 (acc ++ [d]) (fun z hz => hs z (List.mem_cons_of_mem _ hz)) (by omega) h3
    refine ⟨d :: ds, mm', ?_, by simp [h5], ?_, h7⟩
    · rw [lcL_one h1, Option.toList_some, h4]
      simp
    · intro z hz
      rcases List.mem_cons.mp hz with rfl | hz
      · exact h2
      · exact h6 z hz
/-! ### the built-in things, run -/
section
variable (i j : Int)
@[simp] theorem eqD_int : eqD (.int i) (.int j) = some (.bl (decide (i = j))) := rfl
@[simp] theorem eqD_str (s t : Str) : eqD (.str s) (.str t) = some (.bl (decide (s = t))) := rfl
@[simp] theorem addD_int : addD (.int i) (.int j) = some (.int (i + j)) := rfl
@[simp] theorem subD_int : subD (.int i) (.int j) = some (.int (i - j)) := rfl
@[simp] theorem ltD_int : ltD (.int i) (.int j) = some (.bl (decide (i < j))) := rfl
@[simp] theorem leD_int : leD (.int i) (.int j) = some (.bl (decide (i ≤ j))) := rfl
@[simp] theorem gtD_int : gtD (.int i) (.int j) = some (.bl (decide (j < i))) := rfl
@[simp] theorem geD_int : geD (.int i) (.int j) = some (.bl (decide (j ≤ i))) := rfl
@[simp] theorem isND_non (x : D) : isND x .non = some (.bl (isNon x)) := rfl
@[simp] theorem nnND_non (x : D) : nnND x .non = some (.bl (!isNon x)) := rfl
theorem modD_int (h : 0 < j) : modD (.int i) (.int j) = some (.int (i % j)) := if_pos h
theorem divD_int (h : 0 < j ∧ j < 2 ^ 64) : divD (.int i) (.int j) = some (.int (i / j)) := if_pos h
theorem mulD_int (h : i.natAbs.log2 + j.natAbs.log2 < 1000000) : mulD (.int i) (.int j) = some (.int (i * j)) := if_pos h
theorem powD_10 : powD (.int 10) (.int 18) = some (.int 1000000000000000000) := by
  rw [powD, if_pos (by decide)]
  rfl
theorem log2_small {n k : Nat} (h : n < 2 ^ k) (hk : 0 < k) : n.log2 < k := by
  by_cases hn : n = 0
  · subst hn; simpa using hk
  · exact (Nat.log2_lt hn).mpr h
end
@[simp] theorem itU_lst (ds : List D) : itU (.lst ds) = some ds := rfl
@[simp] theorem itU_fl (ds : List D) : itU (.fl ds) = some ds := rfl
@[simp] theorem itU_tup (ds : List D) : itU (.tup ds) = some ds := rfl
@[simp] theorem itU_kt (ds : List D) : itU (.kt ds) = some ds := rfl
@[simp] theorem itU_str (z : Str) : itU (.str z) = some (signs z) := rfl
@[simp] theorem itemsL_lst (ds : List D) : itemsL (.lst ds) = some ds := rfl
@[simp] theorem itemsS_lst (ds : List D) : itemsS (.lst ds) = some ds := rfl
@[simp] theorem boolsO_map {α : Type} (f : α → Bool) (xs : List α) : boolsO (xs.map fun x => .bl (f x)) = some (xs.map f) := by
  induction xs with
  | nil => rfl
  | cons x xs ih => simp [boolsO, ih]
@[simp] theorem strsO_map (xs : List Str) : strsO (xs.map .str) = some xs := by
  induction xs with
  | nil => rfl
  | cons x xs ih => simp [strsO, ih]
@[simp] theorem lenD_lst (ds : List D) : lenD [.lst ds] = some (.int ds.length) := rfl
theorem lenD_str {z : Str} (h : z.length ≤ sizeLine) : lenD [.str z] = some (.int z.length) := if_pos h
@[simp] theorem inD_sign (c : Nat) (z : Str) : inD (.str ⟨#[c]⟩) (.str z) = some (.bl (decide (c ∈ z.cps.toList))) := rfl
@[simp] theorem niD_sign (c : Nat) (z : Str) : niD (.str ⟨#[c]⟩) (.str z) = some (.bl (!decide (c ∈ z.cps.toList))) := rfl
/-! ### the stream of the law's draws -/
def strmC (a b c : Int) : Cell := .p (.lst [.int a, .int b, .int c])
/-- the cells m0, but in cell j a stream, of at most k draws -/
def Sm (m0 : List Cell) (j k : Nat) (mm : List Cell) : Prop := m0.all flatC = true ∧ j < m0.length ∧ ∃ a b c : Int, mm = m0.set j (strmC a b c) ∧ 0 ≤ c ∧ c ≤ k
theorem Sm.mono {m0 mm : List Cell} {j k k' : Nat} (s : Sm m0 j k mm) (h : k ≤ k') : Sm m0 j k' mm := by
  obtain ⟨h1, h2, a, b, c, h3, h4, h5⟩ := s
  exact ⟨h1, h2, a, b, c, h3, h4, by omega⟩
theorem all_set {m0 : List Cell} {j : Nat} {c : Cell} (h : m0.all flatC = true) (hc : flatC c = true) : (m0.set j c).all flatC = true := by
  rw [List.all_eq_true] at h ⊢
  intro x hx
  rcases List.mem_or_eq_of_mem_set hx with hx | rfl
  · exact h x hx
  · exact hc
theorem Sm.len {m0 mm : List Cell} {j k : Nat} (s : Sm m0 j k mm) : mm.length = m0.length := by
  obtain ⟨h1, h2, a, b, c, rfl, h4, h5⟩ := s
  simp
theorem Sm.flat {m0 mm : List Cell} {j k : Nat} (s : Sm m0 j k mm) : mm.all flatC = true := by
  obtain ⟨h1, h2, a, b, c, rfl, h4, h5⟩ := s
  exact all_set h1 rfl
theorem cutM_all {mm : List Cell} {n : Nat} (h : mm.all flatC = true) (hn : mm.length = n) : cutM n mm = some mm := by
  subst hn
  rw [cutM, List.take_length, if_pos h]
theorem cutM_app {mm r : List Cell} {n : Nat} (h : mm.all flatC = true) (hn : mm.length = n) : cutM n (mm ++ r) = some mm := by
  subst hn
  rw [cutM, List.take_left, if_pos h]
/-! ### texts -/
open TL (tl)
theorem atI_mem {α : Type} {xs : List α} {r : Int} (h0 : 0 ≤ r) (h1 : r < xs.length) : ∃ d, atI xs r = some d ∧ d ∈ xs := by
  have h : r.toNat < xs.length := by omega
  exact ⟨xs[r.toNat], by simp [atI, ixN, h0, h1, h], List.getElem_mem h⟩
theorem mem_joinL {S : List Nat} {c : Nat} : ∀ {ps : List (List Nat)}, c ∈ TL.joinL S ps → c ∈ S ∨ ∃ p ∈ ps, c ∈ p
  | [], h => nomatch h
  | [p], h => .inr ⟨p, List.mem_singleton.mpr rfl, h⟩
  | p :: q :: r, h => by
    rw [TL.joinL, List.mem_append, List.mem_append] at h
    rcases h with h | h | h
    · exact .inr ⟨p, List.mem_cons_self .., h⟩
    · exact .inl h
    · rcases mem_joinL h with h | ⟨x, hx, h⟩
      · exact .inl h
      · exact .inr ⟨x, List.mem_cons_of_mem _ hx, h⟩
theorem tl_tjoin (y : Str) (ps : List Str) : tl (Txt.join y ps) = TL.joinL (tl y) (ps.map tl) := by rw [TL.join_eq, TL.tl_join]
theorem joinL_nil (ps : List (List Nat)) : TL.joinL [] ps = ps.flatten := by
  induction ps with
  | nil => rfl
  | cons p ps ih =>
    cases ps with
    | nil => simp [TL.joinL]
    | cons q r => rw [TL.joinL, ih]; simp
theorem mem_tjoin {y : Str} {c : Nat} {ps : List Str} (h : c ∈ tl (Txt.join y ps)) : c ∈ tl y ∨ ∃ p ∈ ps, c ∈ tl p := by
  rw [tl_tjoin] at h
  rcases mem_joinL h with h | ⟨p, hp, h⟩
  · exact .inl h
  · obtain ⟨q, hq, rfl⟩ := List.mem_map.mp hp
    exact .inr ⟨q, hq, h⟩
theorem len_joinL (S : List Nat) : ∀ ps : List (List Nat), (TL.joinL S ps).length ≤ (ps.map List.length).sum + ps.length * S.length
  | [] => Nat.zero_le _
  | [p] => by simp [TL.joinL]
  | p :: q :: r => by
    have := len_joinL S (q :: r)
    rw [TL.joinL]
    simp only [List.length_append, List.map_cons, List.sum_cons, List.length_cons] at this ⊢
    rw [Nat.add_mul]
    omega
theorem len_tjoin (y : Str) (ps : List Str) : (Txt.join y ps).length ≤ sumLen ps + ps.length * y.length := by
  have := len_joinL (tl y) (ps.map tl)
  rw [TL.len_tl, tl_tjoin, TL.len_tl y]
  simpa [sumLen, Function.comp_def, TL.len_tl] using this
theorem sumLen_le {ps : List Str} {n : Nat} (h : ∀ p ∈ ps, p.length ≤ n) : sumLen ps ≤ ps.length * n := by
  induction ps with
  | nil => exact Nat.zero_le _
  | cons p ps ih =>
    have h1 := ih fun q hq => h q (List.mem_cons_of_mem _ hq)
    have h2 := h p (List.mem_cons_self ..)
    simp only [sumLen, List.map_cons, List.sum_cons, List.length_cons] at h1 ⊢
    rw [Nat.add_mul]
    omega
/-- data that are texts of a kind -/
theorem strs_of {ds : List D} {P : Str → Prop} (h : ∀ d ∈ ds, ∃ s, d = .str s ∧ P s) : ∃ ss : List Str, ds = ss.map D.str ∧ ∀ s ∈ ss, P s := by
  induction ds with
  | nil => exact ⟨[], rfl, fun _ h => nomatch h⟩
  | cons d ds ih =>
    obtain ⟨s, rfl, hs⟩ := h d (List.mem_cons_self ..)
    obtain ⟨ss, rfl, hss⟩ := ih fun e he => h e (List.mem_cons_of_mem _ he)
    exact ⟨s :: ss, rfl, fun x hx => by
      rcases List.mem_cons.mp hx with rfl | hx
      · exact hs
      · exact hss x hx⟩
theorem joinD_strs {a : Str} {ss : List Str} (h : sumLen ss + ss.length * a.length ≤ 16777216) : joinD (.str a) (.lst (ss.map D.str)) = some (.str (Txt.join a ss)) := by
  simp [joinD, h]
theorem okDs_strs {ss : List Str} (h : ∀ s ∈ ss, okS s = true) : okDs (ss.map D.str) = true ∧ depDs (ss.map D.str) = 0 := by
  induction ss with
  | nil => exact ⟨rfl, rfl⟩
  | cons s ss ih =>
    obtain ⟨h1, h2⟩ := ih fun x hx => h x (List.mem_cons_of_mem _ hx)
    have h3 := h s (List.mem_cons_self ..)
    constructor
    · simp [okDs, okD, h3, h1]
    · simp [depDs, depD, h2]
theorem eqOk_strs {ss : List Str} (h : ∀ s ∈ ss, okS s = true) : eqOk (.lst (ss.map D.str)) = true := by
  obtain ⟨h1, h2⟩ := okDs_strs h
  simp [eqOk, okD, depD, h1, h2]
theorem eqD_strs {ss tt : List Str} (h1 : ∀ s ∈ ss, okS s = true) (h2 : ∀ s ∈ tt, okS s = true) : eqD (.lst (ss.map D.str)) (.lst (tt.map D.str)) = some (.bl (decide (ss = tt))) := by
  rw [eqD]
  · rw [eqOk_strs h1, eqOk_strs h2]
    simp
  all_goals simp
theorem cut_take (ns : List Int) (k : Nat) : cutD (ns.map D.int) none (some (k : Int)) = (ns.take k).map D.int := by
  have : ¬ ((k : Int) < 0) := by omega
  simp [cutD, HT.sIx, this, List.map_take, List.take_eq_take_iff]
theorem Sm.start {mm : List Cell} (h : mm.all flatC = true) (a b : Int) : Sm (mm ++ [.p (.lst [.int a, .int b, .int 0])]) mm.length 0 (mm ++ [.p (.lst [.int a, .int b, .int 0])]) :=
  ⟨by simpa [flatC] using h, by simp, a, b, 0, by simp [strmC], by decide, by decide⟩
end S

namespace S
open PySem PySem.Spec L2

def k_MARKS : List (Str × Str) := [((Str.ofString ":"), (Str.ofString "is")), ((Str.ofString "|"), (Str.ofString "or")), ((Str.ofString "~"), (Str.ofString "empty"))]
def k_SIDES : List Str := [(Str.ofString "left"), (Str.ofString "right"), (Str.ofString "none")]
def isa : Kd → Kc → Option Bool := fun _ _ => none
def B_is_made_of : Sg → Rs Fl :=
    (sRet (sCb allD (sCons (sLc (iU (sVar 0)) (gN 2) tYes1 (sOp inD (sVar 2) (sVar 1)) [2]) sNil)))
def F_is_made_of : List D → Rr := defP 2 3 B_is_made_of
def B__law_cell : Sg → Rs Fl :=
    (sSeq (sIf (tB1 (sOp ltD (sVar 1) (sCb lenD (sCons (sVar 0) sNil)))) (sRet (sIx (sVar 0) (sVar 1)))
      sNx)
    (sRet (sC (.int 0))))
def F__law_cell : List D → Rr := defP 2 2 B__law_cell
def B__law_stir : Sg → Rs Fl :=
    (sSeq (sAsg (sOp modD (sOp addD (sOp addD (sOp mulD (sOp modD (sVar 0) (sC (.int 2147483647))) (sC (.int 48271))) (sOp mulD (sC (.int 69621)) (sVar 1))) (sC (.int 7))) (sC (.int 2147483647))) (gN 2))
    (sSeq (sAsg (sOp modD (sOp mulD (sVar 2) (sVar 2)) (sC (.int 2147483629))) (gN 2))
    (sRet (sOp modD (sOp addD (sOp addD (sOp mulD (sVar 2) (sVar 2)) (sOp mulD (sC (.int 16807)) (sVar 2))) (sC (.int 11))) (sC (.int 2147483587))))))
def F__law_stir : List D → Rr := defP 2 3 B__law_stir
def B__law_stream : Sg → Rs Fl :=
    (sRetF (sLstA (sCons (sOp subD (sVar 0) (sOp powD (sC (.int 10)) (sC (.int 18)))) (sCons (sVar 0) (sCons (sC (.int 0)) sNil)))))
def F__law_stream : List D → Rr := defF 1 1 B__law_stream
def B__law_is_sign : Sg → Rs Fl :=
    (sSeq (sAsg (sC (.str (Str.ofString "abcdefghijklmnopqrstuvwxyz0123456789+-*/()[]=<>,;.!?^&"))) (gN 1))
    (sRet (sAnd (sChain leD leD (sC (.int 1)) (sCb lenD (sCons (sVar 0) sNil)) (sC (.int 6))) (sOp eqD (sCb lenD (sCons (sLc (iU (sVar 0)) (gN 2) (tB1 (sOp niD (sVar 2) (sVar 1))) (sVar 2) [2]) sNil)) (sC (.int 0))))))
def F__law_is_sign : List D → Rr := defP 1 3 B__law_is_sign
def B__law_is_head : Sg → Rs Fl :=
    (sSeq (sIf (tOr1 (tNot1 (tB1 (sChain leD leD (sC (.int 1)) (sCb lenD (sCons (sVar 0) sNil)) (sC (.int 6))))) (tB1 (sOp niD (sIx (sVar 0) (sC (.int 0))) (sC (.str (Str.ofString "ABCDEFGHIJKLMNOPQRSTUVWXYZ")))))) (sRet (sC (.bl false)))
      sNx)
    (sRet (sOp eqD (sCb lenD (sCons (sLc (iU (sSl slD (sVar 0) (oSome (sC (.int 1))) oNone)) (gN 1) (tB1 (sOp niD (sVar 1) (sC (.str (Str.ofString "abcdefghijklmnopqrstuvwxyz0123456789"))))) (sVar 1) [1]) sNil)) (sC (.int 0)))))
def F__law_is_head : List D → Rr := defP 1 2 B__law_is_head
def B_is_sign : Sg → Rs Fl :=
    (sSeq (sIf (tOr1 (tNot1 (tB1 (sCb (isiD isa) (sCons (sVar 0) (sCons (sC (.ty "str")) sNil))))) (tNot1 (tB1 (sChain leD leD (sC (.int 1)) (sCb lenD (sCons (sVar 0) sNil)) (sC (.int 6)))))) (sRet (sC (.bl false)))
      sNx)
    (sRet (sCall F_is_made_of (sCons (sVar 0) (sCons (sOp addD (sOp addD (sC (.str (Str.ofString "abcdefghijklmnopqrstuvwxyz"))) (sC (.str (Str.ofString "0123456789")))) (sC (.str (Str.ofString "+-*/()[]=<>,;.!?^&")))) sNil)))))
def F_is_sign : List D → Rr := defP 1 1 B_is_sign
def B_is_head : Sg → Rs Fl :=
    (sSeq (sIf (tOr1 (tNot1 (tB1 (sCb (isiD isa) (sCons (sVar 0) (sCons (sC (.ty "str")) sNil))))) (tNot1 (tB1 (sChain leD leD (sC (.int 1)) (sCb lenD (sCons (sVar 0) sNil)) (sC (.int 6)))))) (sRet (sC (.bl false)))
      sNx)
    (sRet (sAnd (sOp inD (sIx (sVar 0) (sC (.int 0))) (sC (.str (Str.ofString "ABCDEFGHIJKLMNOPQRSTUVWXYZ")))) (sCall F_is_made_of (sCons (sSl slD (sVar 0) (oSome (sC (.int 1))) oNone) (sCons (sOp addD (sC (.str (Str.ofString "abcdefghijklmnopqrstuvwxyz"))) (sC (.str (Str.ofString "0123456789")))) sNil))))))
def F_is_head : List D → Rr := defP 1 1 B_is_head
def B__law_draw : Sg → Rs Fl :=
    (sSeq (sSetL (sOp addD (sIx (sVar 0) (sC (.int 2))) (sC (.int 1))) (sVar 0) (sC (.int 2)))
    (sSeq (sIf (tB1 (sOp geD (sIx (sVar 0) (sC (.int 1))) (sOp powD (sC (.int 10)) (sC (.int 18))))) (sSeq (sAsg (sOp modD (sIx (sVar 0) (sC (.int 0))) (sVar 1)) (gN 2))
    (sSeq (sSetL (sOp divD (sIx (sVar 0) (sC (.int 0))) (sVar 1)) (sVar 0) (sC (.int 0)))
    (sRet (sVar 2))))
      sNx)
    (sRet (sOp modD (sOp divD (sCall F__law_stir (sCons (sIx (sVar 0) (sC (.int 1))) (sCons (sIx (sVar 0) (sC (.int 2))) sNil))) (sC (.int 8))) (sVar 1)))))
def F__law_draw : List U → List Cell → Rb := defB 2 3 B__law_draw
def B__law_kind : Sg → Rs Fl :=
    (sSeq (sIf (tAnd1 (tB1 (sOp eqD (sVar 1) (sC (.int 0)))) (tB1 (sOp inD (sVar 0) (sLst (sCons (sC (.str (Str.ofString "left"))) (sCons (sC (.str (Str.ofString "right"))) (sCons (sC (.str (Str.ofString "none"))) sNil))))))) (sRet (sC (.str (Str.ofString "side"))))
      sNx)
    (sSeq (sIf (tB1 (sCall F__law_is_head (sCons (sVar 0) sNil))) (sRet (sC (.str (Str.ofString "head"))))
      sNx)
    (sSeq (sIf (tB1 (sCall F__law_is_sign (sCons (sVar 0) sNil))) (sRet (sC (.str (Str.ofString "sign"))))
      sNx)
    (sSeq (sAsg (sDisp (pC (sC (.str (Str.ofString ":"))) (sC (.str (Str.ofString "is"))) (pC (sC (.str (Str.ofString "|"))) (sC (.str (Str.ofString "or"))) (pC (sC (.str (Str.ofString "~"))) (sC (.str (Str.ofString "empty"))) pN)))) (gN 2))
    (sSeq (sIf (tB1 (sOp inD (sVar 0) (sVar 2))) (sRet (sIx (sVar 2) (sVar 0)))
      sNx)
    (sRet (sC (.str (Str.ofString "bad")))))))))
def F__law_kind : List D → Rr := defP 2 3 B__law_kind
def B_kind_of : Sg → Rs Fl :=
    (sSeq (sIf (tAnd1 (tB1 (sOp eqD (sVar 1) (sC (.int 0)))) (tB1 (sOp inD (sVar 0) (sC (.kt (List.map D.str k_SIDES)))))) (sRet (sC (.str (Str.ofString "side"))))
      sNx)
    (sSeq (sIf (tB1 (sCall F_is_head (sCons (sVar 0) sNil))) (sRet (sC (.str (Str.ofString "head"))))
      sNx)
    (sSeq (sIf (tB1 (sCall F_is_sign (sCons (sVar 0) sNil))) (sRet (sC (.str (Str.ofString "sign"))))
      sNx)
    (sRet (sKGet k_MARKS (sVar 0) (sC (.str (Str.ofString "bad"))))))))
def F_kind_of : List D → Rr := defP 2 2 B_kind_of
def B__law_word : Sg → Rs Fl :=
    (sSeq (sAsg (sLst (sCons (sC (.str (Str.ofString "left"))) (sCons (sC (.str (Str.ofString "right"))) (sCons (sC (.str (Str.ofString "none"))) (sCons (sC (.str (Str.ofString "E"))) (sCons (sC (.str (Str.ofString "Rule"))) (sCons (sC (.str (Str.ofString "Ab1"))) (sCons (sC (.str (Str.ofString "A00000"))) (sCons (sC (.str (Str.ofString "Abcdefg"))) (sCons (sC (.str (Str.ofString "AB"))) (sCons (sC (.str (Str.ofString "aB"))) (sCons (sC (.str (Str.ofString "a"))) (sCons (sC (.str (Str.ofString "0"))) (sCons (sC (.str (Str.ofString "+"))) (sCons (sC (.str (Str.ofString "id"))) sNil))))))))))))))) (gN 1))
    (sSeq (sAsg (sOp addD (sVar 1) (sLst (sCons (sC (.str (Str.ofString "<="))) (sCons (sC (.str (Str.ofString "~"))) (sCons (sC (.str (Str.ofString ":"))) (sCons (sC (.str (Str.ofString "|"))) (sCons (sC (.str (Str.ofString "::"))) (sCons (sC (.str (Str.ofString "||"))) (sCons (sC (.str (Str.ofString "~~"))) (sCons (sC (.str (Str.ofString "$"))) (sCons (sC (.str (Str.ofString ""))) (sCons (sC (.str (Str.ofString "abcdef"))) (sCons (sC (.str (Str.ofString "abcdefg"))) (sCons (sC (.str (Str.ofString "lefty"))) (sCons (sC (.str (Str.ofString "Left"))) (sCons (sC (.str (Str.ofString "_"))) sNil)))))))))))))))) (gN 1))
    (sSeq (sAsg (sOp addD (sVar 1) (sLst (sCons (sC (.str (Str.ofString "a:"))) (sCons (sC (.str (Str.ofString "{"))) (sCons (sC (.str (Str.ofString "#"))) (sCons (sC (.str (Str.ofString "z9"))) sNil)))))) (gN 1))
    (sSeq (sAsg (sCallB F__law_draw (sCons (sVar 0) (sCons (sC (.int 40)) sNil))) (gN 2))
    (sSeq (sIf (tB1 (sOp ltD (sVar 2) (sC (.int 32)))) (sRet (sIx (sVar 1) (sVar 2)))
      sNx)
    (sSeq (sAsg (sC (.str (Str.ofString "abcdefghijklmnopqrstuvwxyz0123456789+-*/()[]=<>,;.!?^&ABCXYZ:|~$_@#'"))) (gN 3))
    (sRet (sM1 joinD (sC (.str (Str.ofString ""))) (sLc (iCa rng1 (sCons (sOp addD (sC (.int 1)) (sCallB F__law_draw (sCons (sVar 0) (sCons (sC (.int 7)) sNil)))) sNil)) (gN 4) tYes1 (sIx (sVar 3) (sCallB F__law_draw (sCons (sVar 0) (sCons (sCb lenD (sCons (sVar 3) sNil)) sNil)))) [4])))))))))
def F__law_word : List U → List Cell → Rb := defB 1 5 B__law_word
def B_kinds_of : Sg → Rs Fl :=
    (sRetF (sLcA (iCa enum1 (sCons (sM1 splitD (sVar 0) (sC (.str (Str.ofString " ")))) sNil)) (gT 2 (gsC (gN 1) (gsC (gN 2) gsN))) tYes1 (sCall F_kind_of (sCons (sVar 2) (sCons (sVar 1) sNil))) [1, 2]))
def F_kinds_of : List D → Rr := defF 1 3 B_kinds_of
def L_law_1 : Sg → Rs Fl :=
    (sSeq (sAsg (sCallA F__law_stream (sCons (sVar 1) sNil)) (gN 2))
    (sSeq (sAsg (sLc (iCa rng1 (sCons (sOp addD (sC (.int 1)) (sCallB F__law_draw (sCons (sVar 2) (sCons (sC (.int 8)) sNil)))) sNil)) (gN 6) tYes1 (sCallB F__law_word (sCons (sVar 2) sNil)) [6]) (gN 3))
    (sSeq (sAsg (sLc (iCa enum1 (sCons (sVar 3) sNil)) (gT 2 (gsC (gN 7) (gsC (gN 8) gsN))) tYes1 (sCall F__law_kind (sCons (sVar 8) (sCons (sVar 7) sNil))) [7, 8]) (gN 4))
    (sSeq (sAsg (sCallA F_kinds_of (sCons (sM1 joinD (sC (.str (Str.ofString " "))) (sVar 3)) sNil)) (gN 5))
    (sSeq (sIf (tOr1 (tNot1 (tB1 (sCb (isiD isa) (sCons (sVar 5) (sCons (sC (.ty "list")) sNil))))) (tB1 (sOp neD (sVar 5) (sVar 4)))) (sRet (sC (.bl false)))
      sNx)
    (sSeq (sDrop (sApp (sVar 5) (sC (.str (Str.ofString "bad")))))
    (sIf (tB1 (sOp neD (sCall F_kinds_of (sCons (sM1 joinD (sC (.str (Str.ofString " "))) (sVar 3)) sNil)) (sVar 4))) (sRet (sC (.bl false)))
      sNx)))))))
def B_law : Sg → Rs Fl :=
    (sSeq (sIf (tOr1 (tB1 (sOp neD (sCall F_kinds_of (sCons (sC (.str (Str.ofString ""))) sNil)) (sLst (sCons (sC (.str (Str.ofString "bad"))) sNil)))) (tB1 (sOp neD (sCall F_kinds_of (sCons (sC (.str (Str.ofString " "))) sNil)) (sLst (sCons (sC (.str (Str.ofString "bad"))) (sCons (sC (.str (Str.ofString "bad"))) sNil)))))) (sRet (sC (.bl false)))
      sNx)
    (sSeq (sFor [0, 1, 2, 3, 4, 5, 6, 7, 8] (iU (sOp addD (sSl slD (sVar 0) oNone (oSome (sC (.int 60)))) (sLst (sCons (sC (.int 0)) (sCons (sC (.int 7)) sNil))))) (gN 1)
      L_law_1)
    (sRet (sC (.bl true)))))
def F_law : List D → Rr := defP 1 9 B_law
theorem stir_eq (c k : Int) (h0 : 0 ≤ k) (h1 : k < 2 ^ 210) : ∃ r : Int, F__law_stir [.int c, .int k] = .ok (.int r) ∧ 0 ≤ r := by
  obtain ⟨x, hx⟩ : ∃ x, x = c % 2147483647 := ⟨_, rfl⟩
  obtain ⟨n1, hn1⟩ : ∃ n, n = (x * 48271 + 69621 * k + 7) % 2147483647 := ⟨_, rfl⟩
  obtain ⟨n2, hn2⟩ : ∃ n, n = n1 * n1 % 2147483629 := ⟨_, rfl⟩
  have x0 : x.natAbs.log2 < 31 := log2_small (by omega) (by decide)
  have y1 : n1.natAbs.log2 < 31 := log2_small (by omega) (by decide)
  have y2 : n2.natAbs.log2 < 31 := log2_small (by omega) (by decide)
  have k1 : k.natAbs.log2 < 210 := log2_small (by omega) (by decide)
  have m1 : mulD (.int x) (.int 48271) = some (.int (x * 48271)) := mulD_int _ _ (by have : (48271 : Int).natAbs.log2 = 15 := (by decide); omega)
  have m2 : mulD (.int 69621) (.int k) = some (.int (69621 * k)) := mulD_int _ _ (by have : (69621 : Int).natAbs.log2 = 16 := (by decide); omega)
  have m3 : mulD (.int n1) (.int n1) = some (.int (n1 * n1)) := mulD_int _ _ (by omega)
  have m4 : mulD (.int n2) (.int n2) = some (.int (n2 * n2)) := mulD_int _ _ (by omega)
  have m5 : mulD (.int 16807) (.int n2) = some (.int (16807 * n2)) := mulD_int _ _ (by have : (16807 : Int).natAbs.log2 = 14 := (by decide); omega)
  refine ⟨(n2 * n2 + 16807 * n2 + 11) % 2147483587, ?_, Int.emod_nonneg _ (by decide)⟩
  simp only [F__law_stir, defP, runP, B__law_stir, slotsP, List.length_cons, List.length_nil, Nat.reduceAdd, if_true, List.map_cons, List.map_nil, Nat.reduceSub, List.replicate, List.cons_append, List.nil_append,
    sSeq_ev, sAsg_ev, sRet_ev, sOp_ev, sVar_ev, sC_ev, gN_ev, bind_ok, ofO_some, dr_d, Option.bind_some, List.getElem?_cons_zero, List.getElem?_cons_succ, addD_int, List.set_cons_zero, List.set_cons_succ, pu_d,
    modD_int _ _ (show (0 : Int) < 2147483647 by decide), modD_int _ _ (show (0 : Int) < 2147483629 by decide), modD_int _ _ (show (0 : Int) < 2147483587 by decide), ← hx, m1, m2, ← hn1, m3, ← hn2, m4, m5]
theorem draw_eq {m0 mm : List Cell} {j k : Nat} (s : Sm m0 j k mm) (hk : k < 2 ^ 200) (m : Int) (h1 : 0 < m) (h2 : m < 2 ^ 60) : ∃ (r : Int) (mm' : List Cell), F__law_draw [.lc j, .d (.int m)] mm = .ok (.int r) mm' ∧ 0 ≤ r ∧ r < m ∧ Sm m0 j (k + 1) mm' := by
  have sf := s.flat
  have sl := s.len
  obtain ⟨s1, s2, a, b, c, e, s3, s4⟩ := s
  obtain ⟨q, hq, hq0⟩ := stir_eq b (c + 1) (by omega) (by omega)
  have e0 : mm[j]? = some (strmC a b c) := by rw [e]; simp [s2]
  have fl : ∀ d : D, cutM m0.length (m0.set j (.p d)) = some (m0.set j (.p d)) := fun d => cutM_all (all_set s1 rfl) (by simp)
  have g : ∀ d : D, (m0.set j (.p d))[j]? = some (.p d) := fun d => by simp [s2]
  by_cases hb : (1000000000000000000 : Int) ≤ b
  · refine ⟨a % m, m0.set j (strmC (a / m) b (c + 1)), ?_, Int.emod_nonneg _ (by omega), Int.emod_lt_of_pos _ h1, s1, s2, _, _, _, rfl, by omega, by omega⟩
    simp [F__law_draw, defB, runB, B__law_draw, slotsU, e, g, strmC, atD, ixD, atI, ixN, powD_10, hb, modD_int _ _ h1, divD_int _ _ ⟨h1, Int.lt_trans h2 (by decide)⟩, List.set_set, sl, fl]
  · refine ⟨q / 8 % m, m0.set j (strmC a b (c + 1)), ?_, Int.emod_nonneg _ (by omega), Int.emod_lt_of_pos _ h1, s1, s2, _, _, _, rfl, by omega, by omega⟩
    simp [F__law_draw, defB, runB, B__law_draw, slotsU, e, g, strmC, atD, ixD, atI, ixN, powD_10, hb, modD_int _ _ h1, divD_int _ _ ⟨(show (0 : Int) < 8 by decide), (by decide)⟩, List.set_set, sl, fl, hq]
open TL (tl)
def goodW (d : D) : Bool := match d with
  | .str w => decide (w.length ≤ 7) && !(tl w).contains 32
  | _ => false
theorem goodW_str {w : Str} (h : goodW (.str w) = true) : w.length ≤ 7 ∧ 32 ∉ tl w := by
  simpa [goodW] using h
theorem word_eq {m0 mm : List Cell} {j k : Nat} (s : Sm m0 j k mm) (hk : k < 2 ^ 190) : ∃ (w : Str) (mm' : List Cell), F__law_word [.lc j] mm = .ok (.str w) mm' ∧ (w.length ≤ 7 ∧ 32 ∉ tl w) ∧ Sm m0 j (k + 20) mm' := by
  obtain ⟨r, m1, e1, r0, r1, s1⟩ := draw_eq s (by omega) 40 (by decide) (by decide)
  obtain ⟨ws, hws⟩ : ∃ ws : List D, ws = ["left", "right", "none", "E", "Rule", "Ab1", "A00000", "Abcdefg", "AB", "aB", "a", "0", "+", "id", "<=", "~", ":", "|", "::", "||", "~~", "$", "", "abcdef", "abcdefg", "lefty", "Left", "_", "a:", "{", "#", "z9"].map fun x => D.str (Str.ofString x) := ⟨_, rfl⟩
  by_cases hr : r < 32
  · obtain ⟨d, h1, h2⟩ := atI_mem (xs := ws) r0 (by rw [hws]; exact hr)
    have h3 : goodW d = true := by
      have : ws.all goodW = true := by rw [hws]; decide +kernel
      exact List.all_eq_true.mp this d h2
    obtain ⟨w, rfl⟩ : ∃ w, d = .str w := by cases d <;> first | exact ⟨_, rfl⟩ | exact (nomatch h3)
    refine ⟨w, m1, ?_, goodW_str h3, s1.mono (by omega)⟩
    rw [hws] at h1
    simp only [List.map_cons, List.map_nil] at h1
    simp [F__law_word, defB, runB, B__law_word, slotsU, addD, sizeLine, e1, hr, ixD, atD, h1, cutM_all s1.flat, s.len, s1.len]
  · obtain ⟨t, m2, e2, t0, t1, s2⟩ := draw_eq s1 (by omega) 7 (by decide) (by decide)
    obtain ⟨sg, hsg⟩ : ∃ z : Str, z = Str.ofString "abcdefghijklmnopqrstuvwxyz0123456789+-*/()[]=<>,;.!?^&ABCXYZ:|~$_@#'" := ⟨_, rfl⟩
    have hl : sg.length = 68 := by rw [hsg]; decide +kernel
    have hn : 32 ∉ tl sg := by rw [hsg]; decide +kernel
    have ht : (1 + t).toNat ≤ 7 := by omega
    obtain ⟨ds, m3, e3, q1, q2, q3⟩ := lcL_inv (sl := [some (.lc j), some (.d (.lst ws)), some (.d (.int r)), some (.d (.str sg)), none]) (vs := [4]) (tg := gN 4) (tt := tYes1) (te := sIx (sVar 3) (sCallB F__law_draw (sCons (sVar 0) (sCons (sCb lenD (sCons (sVar 3) sNil)) sNil))))
      (xs := (List.range (1 + t).toNat).map fun (i : Nat) => D.int (i : Int)) (fun i mm => Sm m0 j (k + 2 + i) mm) (fun d => ∃ s, d = .str s ∧ s.length = 1 ∧ 32 ∉ tl s) (fun x hx i mm hi hI => by
        simp at hi
        obtain ⟨r, m4, e4, r0, r1, s4⟩ := draw_eq hI (by omega) 68 (by decide) (by decide)
        obtain ⟨c, h1, h2⟩ := atI_mem (xs := tl sg) r0 (by rw [← TL.len_tl, hl]; exact r1)
        refine ⟨.str ⟨#[c]⟩, m4, ?_, ⟨_, rfl, rfl, ?_⟩, s4⟩
        · simp [lcStep, lenD, hl, sizeLine, e4, ixD, atS, h1]
        · intro h
          have h : 32 = c := by simpa using h
          exact hn (h ▸ h2)) s2
    obtain ⟨ss, rfl, hss⟩ := strs_of q2
    have l1 : ss.length ≤ 7 := by simp at q1; omega
    have l2 := sumLen_le fun p hp => Nat.le_of_eq (hss p hp).1
    have l3 := len_tjoin (Str.ofString "") ss
    have l4 : (Str.ofString "").length = 0 := rfl
    rw [l4] at l3
    refine ⟨Txt.join (Str.ofString "") ss, m3, ?_, ⟨by omega, fun h => ?_⟩, q3.mono (by simp; omega)⟩
    · simp only [List.map_cons, List.map_nil] at hws
      have hrng : rng1 [.int (1 + t)] = some ((List.range (1 + t).toNat).map fun (i : Nat) => D.int (i : Int)) := if_pos (by omega)
      have hln : ((List.range (1 + t).toNat).map fun (i : Nat) => D.int (i : Int)).length ≤ 10000000 := by simp; omega
      simp [F__law_word, defB, runB, B__law_word, slotsU, addD, sizeLine, e1, hr, ← hws, ← hsg, e2, hrng]
      rw [if_pos (by omega), e3]
      simp [joinD_strs (a := Str.ofString "") (ss := ss) (by rw [l4]; omega), cutM_all q3.flat, s.len, q3.len]
    · rcases mem_tjoin h with h | ⟨p, hp, h⟩
      · exact nomatch h
      · exact (hss p hp).2 h
/-! ### made of -/
def madeB (z some : Str) : Bool := (tl z).all fun c => decide (c ∈ tl some)
theorem made_eq (z s : Str) (h : z.length ≤ 10000000) : F_is_made_of [.str z, .str s] = .ok (.bl (madeB z s)) := by
  have e := lcL_map (sl := [some (.d (.str z)), some (.d (.str s)), none]) (vs := [2]) (tg := gN 2) (tt := tYes1) (te := sOp inD (sVar 2) (sVar 1)) (mm := []) (xs := signs z)
    (fun d => match d with | .str x => (match tl x with | [c] => .bl (decide (c ∈ tl s)) | _ => .non) | _ => .non) (fun x hx => by
      obtain ⟨c, _, rfl⟩ := List.mem_map.mp hx
      simp [lcStep]) []
  have hl : (signs z).length ≤ 10000000 := by simpa [signs, Str.length] using h
  simp [F_is_made_of, defP, runP, B_is_made_of, slotsP, hl]
  rw [e]
  simp [signs, Function.comp_def, allD, madeB]
/-! ### what a word is -/
abbrev smallS := Str.ofString "abcdefghijklmnopqrstuvwxyz"
abbrev figS := Str.ofString "0123456789"
abbrev othS := Str.ofString "+-*/()[]=<>,;.!?^&"
abbrev signS := Str.ofString "abcdefghijklmnopqrstuvwxyz0123456789+-*/()[]=<>,;.!?^&"
abbrev headS := Str.ofString "abcdefghijklmnopqrstuvwxyz0123456789"
abbrev greatS := Str.ofString "ABCDEFGHIJKLMNOPQRSTUVWXYZ"
theorem sign_cat : smallS ++ figS ++ othS = signS := by decide +kernel
theorem head_cat : smallS ++ figS = headS := by decide +kernel
def lenB (w : Str) : Bool := decide (1 ≤ w.length) && decide (w.length ≤ 6)
def signB (w : Str) : Bool := lenB w && madeB w signS
def headB (w : Str) : Bool := match tl w with
  | [] => false
  | c :: cs => decide (w.length ≤ 6) && (decide (c ∈ tl greatS) && cs.all fun c => decide (c ∈ tl headS))
theorem small_len : smallS.length = 26 := by decide +kernel
theorem fig_len : figS.length = 10 := by decide +kernel
theorem oth_len : othS.length = 18 := by decide +kernel
theorem head_len : headS.length = 36 := by decide +kernel
theorem sign_eq (w : Str) (h : w.length ≤ 10000000) : F_is_sign [.str w] = .ok (.bl (signB w)) := by
  have hl : lenD [.str w] = some (.int w.length) := lenD_str (Nat.le_trans h (by decide))
  have a1 : addD (.str smallS) (.str figS) = some (.str headS) := by rw [addD, small_len, fig_len, if_pos (by decide), head_cat]
  have a2 : addD (.str headS) (.str othS) = some (.str signS) := by rw [addD, head_len, oth_len, if_pos (by decide), ← head_cat, sign_cat]
  by_cases h1 : 1 ≤ w.length <;> by_cases h2 : w.length ≤ 6
  all_goals
    have h1' : (1 : Int) ≤ w.length ↔ 1 ≤ w.length := by omega
    have h2' : (w.length : Int) ≤ 6 ↔ w.length ≤ 6 := by omega
    simp [F_is_sign, defP, runP, B_is_sign, slotsP, isiD, kdOf, kcOf, isa1, kitB, hl, h1, h2, h1', h2', a1, a2, made_eq w signS h, signB, lenB]
theorem lsign_eq (w : Str) (h : w.length ≤ 10000000) : F__law_is_sign [.str w] = .ok (.bl (signB w)) := by
  have hl : lenD [.str w] = some (.int w.length) := lenD_str (Nat.le_trans h (by decide))
  have e := lcL_fm (sl := [some (.d (.str w)), some (.d (.str signS)), none]) (vs := [2]) (tg := gN 2) (tt := tB1 (sOp niD (sVar 2) (sVar 1))) (te := sVar 2) (mm := []) (xs := signs w)
    (fun d => match d with | .str x => (match tl x with | [c] => if c ∈ tl signS then none else some (.str ⟨#[c]⟩) | _ => none) | _ => none) (fun x hx => by
      obtain ⟨c, _, rfl⟩ := List.mem_map.mp hx
      by_cases hc : c ∈ tl signS <;> simp [lcStep, hc]) []
  have hn : (signs w).length ≤ 10000000 := by simpa [signs, Str.length] using h
  by_cases h1 : 1 ≤ w.length <;> by_cases h2 : w.length ≤ 6
  all_goals
    have h1' : (1 : Int) ≤ w.length ↔ 1 ≤ w.length := by omega
    have h2' : (w.length : Int) ≤ 6 ↔ w.length ≤ 6 := by omega
    simp [F__law_is_sign, defP, runP, B__law_is_sign, slotsP, hl, h1, h2, h1', h2', hn, e, signB, lenB]
  simp [signs, List.filterMap_map, Function.comp_def, madeB]
  rw [← Array.all_toList, Bool.eq_iff_iff]
  simp only [List.all_eq_true, decide_eq_true_eq, Array.mem_toList_iff]
theorem cut1 (c : Nat) (cs : List Nat) : cutS ⟨(c :: cs).toArray⟩ (some 1) none = ⟨cs.toArray⟩ := by
  simp [cutS, HT.sIx, Str.length]
theorem one_cut {w : Str} {c : Nat} {cs : List Nat} (h : w.length ≤ 10000000) (hw : tl w = c :: cs) :
    ixD (.str w) (.int 0) = some (.str ⟨#[c]⟩) ∧ slD (.str w) (some 1) none = some (.str ⟨cs.toArray⟩) ∧ w.length = cs.length + 1 := by
  have e : w = ⟨(c :: cs).toArray⟩ := by rw [← hw, TL.mk_tl]
  have hs : w.length ≤ sizeLine := Nat.le_trans h (by decide)
  refine ⟨?_, ?_, by rw [TL.len_tl, hw]; rfl⟩
  · rw [ixD, atS, if_pos hs, show w.cps.toList = c :: cs from hw]
    simp [atI, ixN]
  · rw [slD, if_pos hs, e, cut1]
theorem head_eq (w : Str) (h : w.length ≤ 10000000) : F_is_head [.str w] = .ok (.bl (headB w)) := by
  have hl : lenD [.str w] = some (.int w.length) := lenD_str (Nat.le_trans h (by decide))
  have a1 : addD (.str smallS) (.str figS) = some (.str headS) := by rw [addD, small_len, fig_len, if_pos (by decide), head_cat]
  cases ht : tl w with
  | nil =>
    have h0 : w.length = 0 := by rw [TL.len_tl, ht]; rfl
    simp [F_is_head, defP, runP, B_is_head, slotsP, isiD, kdOf, kcOf, isa1, kitB, hl, headB, ht, h0]
  | cons c cs =>
    obtain ⟨i1, i2, i3⟩ := one_cut h ht
    have h3 : (1 : Int) ≤ w.length := by omega
    have h4 : madeB ⟨cs.toArray⟩ headS = cs.all fun c => decide (c ∈ tl headS) := rfl
    have h5 := made_eq ⟨cs.toArray⟩ headS (by have : (Str.mk cs.toArray).length = cs.length := rfl; omega)
    by_cases h2 : w.length ≤ 6
    · have h2' : (w.length : Int) ≤ 6 := by omega
      by_cases hc : c ∈ tl greatS
      · simp [F_is_head, defP, runP, B_is_head, slotsP, isiD, kdOf, kcOf, isa1, kitB, hl, h2', i1, i2, h3, a1, headB, ht, h5, h4, hc, h2]
      · simp [F_is_head, defP, runP, B_is_head, slotsP, isiD, kdOf, kcOf, isa1, kitB, hl, h2', i1, i2, h3, a1, headB, ht, h5, h4, hc, h2]
    · have h2' : ¬ (w.length : Int) ≤ 6 := by omega
      simp [F_is_head, defP, runP, B_is_head, slotsP, isiD, kdOf, kcOf, isa1, kitB, hl, h2', headB, ht, h2, h3]
theorem lhead_eq (w : Str) (h : w.length ≤ 10000000) : F__law_is_head [.str w] = .ok (.bl (headB w)) := by
  have hl : lenD [.str w] = some (.int w.length) := lenD_str (Nat.le_trans h (by decide))
  cases ht : tl w with
  | nil =>
    have h0 : w.length = 0 := by rw [TL.len_tl, ht]; rfl
    simp [F__law_is_head, defP, runP, B__law_is_head, slotsP, hl, headB, ht, h0]
  | cons c cs =>
    obtain ⟨i1, i2, i3⟩ := one_cut h ht
    have h3 : (1 : Int) ≤ w.length := by omega
    by_cases h2 : w.length ≤ 6
    · have h2' : (w.length : Int) ≤ 6 := by omega
      by_cases hc : c ∈ tl greatS
      · have e := lcL_fm (sl := [some (.d (.str w)), none]) (vs := [1]) (tg := gN 1) (tt := tB1 (sOp niD (sVar 1) (sC (.str headS)))) (te := sVar 1) (mm := []) (xs := signs ⟨cs.toArray⟩)
          (fun d => match d with | .str x => (match tl x with | [c] => if c ∈ tl headS then none else some (.str ⟨#[c]⟩) | _ => none) | _ => none) (fun x hx => by
            obtain ⟨c, _, rfl⟩ := List.mem_map.mp hx
            by_cases hc : c ∈ tl headS <;> simp [lcStep, hc]) []
        have hn : (signs ⟨cs.toArray⟩).length ≤ 10000000 := by simp [signs]; omega
        have hc' : c ∈ greatS.cps := by simpa [tl] using hc
        simp [F__law_is_head, defP, runP, B__law_is_head, slotsP, hl, h2', i1, i2, h3, headB, ht, hc', h2, hn, e]
        simp [signs, List.filterMap_map, Function.comp_def]
        rw [Bool.eq_iff_iff]
        simp [List.all_eq_true]
      · have hc' : ¬ c ∈ greatS.cps := by simpa [tl] using hc
        simp [F__law_is_head, defP, runP, B__law_is_head, slotsP, hl, h2', i1, i2, h3, headB, ht, hc', h2]
    · have h2' : ¬ (w.length : Int) ≤ 6 := by omega
      simp [F__law_is_head, defP, runP, B__law_is_head, slotsP, hl, h2', headB, ht, h2, h3]
/-! ### kinds -/
def kindS (w : Str) (i : Nat) : Str :=
  if i = 0 ∧ (w = Str.ofString "left" ∨ w = Str.ofString "right" ∨ w = Str.ofString "none") then Str.ofString "side"
  else if headB w then Str.ofString "head"
  else if signB w then Str.ofString "sign"
  else if w = Str.ofString ":" then Str.ofString "is"
  else if w = Str.ofString "|" then Str.ofString "or"
  else if w = Str.ofString "~" then Str.ofString "empty"
  else Str.ofString "bad"
theorem side_in (w : Str) (x y z : Str) : (([D.str x, D.str y, D.str z]).any fun d => eqv d (.str w)) = decide (w = x ∨ w = y ∨ w = z) := by
  simp [eq_comm]
theorem marks_look (w : Str) : List.lookup w k_MARKS = if w = Str.ofString ":" then some (Str.ofString "is") else if w = Str.ofString "|" then some (Str.ofString "or") else if w = Str.ofString "~" then some (Str.ofString "empty") else none := by
  by_cases h1 : w = Str.ofString ":"
  · simp [k_MARKS, List.lookup, h1]
  · by_cases h2 : w = Str.ofString "|"
    · have e : (Str.ofString "|" == Str.ofString ":") = false := by decide
      simp [k_MARKS, List.lookup, h2, e]
    · by_cases h3 : w = Str.ofString "~"
      · have e : (Str.ofString "~" == Str.ofString ":") = false := by decide
        have e2 : (Str.ofString "~" == Str.ofString "|") = false := by decide
        simp [k_MARKS, List.lookup, h3, e, e2]
      · simp [k_MARKS, List.lookup, h1, h2, h3, beq_eq_false_iff_ne.mpr h1, beq_eq_false_iff_ne.mpr h2, beq_eq_false_iff_ne.mpr h3]
theorem kind_eq (w : Str) (i : Nat) (h : w.length ≤ 10000000) : F_kind_of [.str w, .int i] = .ok (.str (kindS w i)) := by
  have e0 : ((i : Int) = 0) ↔ i = 0 := by omega
  have hb : inD (.str w) (.kt (List.map D.str k_SIDES)) = some (.bl (decide (w = Str.ofString "left" ∨ w = Str.ofString "right" ∨ w = Str.ofString "none"))) := by
    rw [← side_in]
    simp [inD, inB, flatD, k_SIDES]
  by_cases h0 : i = 0 <;> by_cases h1 : (w = Str.ofString "left" ∨ w = Str.ofString "right" ∨ w = Str.ofString "none") <;> cases h2 : headB w <;> cases h3 : signB w <;>
    simp [F_kind_of, defP, runP, B_kind_of, slotsP, e0, hb, kindS, h0, h1, h2, h3, head_eq w h, sign_eq w h]
  all_goals
    by_cases h4 : w = Str.ofString ":" <;> by_cases h5 : w = Str.ofString "|" <;> by_cases h6 : w = Str.ofString "~" <;> simp [marks_look, h4, h5, h6]
theorem lkind_eq (w : Str) (i : Nat) (h : w.length ≤ 10000000) : F__law_kind [.str w, .int i] = .ok (.str (kindS w i)) := by
  have e0 : ((i : Int) = 0) ↔ i = 0 := by omega
  have hb : inD (.str w) (.lst [.str (Str.ofString "left"), .str (Str.ofString "right"), .str (Str.ofString "none")]) = some (.bl (decide (w = Str.ofString "left" ∨ w = Str.ofString "right" ∨ w = Str.ofString "none"))) := by
    rw [← side_in]
    simp [inD, inB, flatD]
  by_cases h0 : i = 0 <;> by_cases h1 : (w = Str.ofString "left" ∨ w = Str.ofString "right" ∨ w = Str.ofString "none") <;> cases h2 : headB w <;> cases h3 : signB w <;>
    simp [F__law_kind, defP, runP, B__law_kind, slotsP, e0, hb, kindS, h0, h1, h2, h3, lhead_eq w h, lsign_eq w h, sizeLine]
  all_goals
    have e1 : ¬ (Str.ofString "|" = Str.ofString ":") := by decide
    have e2 : ¬ (Str.ofString "~" = Str.ofString ":") := by decide
    have e3 : ¬ (Str.ofString "~" = Str.ofString "|") := by decide
    have e4 : ¬ (Str.ofString ":" = Str.ofString "|") := by decide
    have e5 : ¬ (Str.ofString ":" = Str.ofString "~") := by decide
    have e6 : ¬ (Str.ofString "|" = Str.ofString "~") := by decide
    by_cases h4 : w = Str.ofString ":"
    · simp [keyOf, inD, inB, dgetD, findD, ixD, h4, e4, e5, e6]
    · by_cases h5 : w = Str.ofString "|"
      · simp [keyOf, inD, inB, dgetD, findD, ixD, h5, e1, e4, e5, e6]
      · by_cases h6 : w = Str.ofString "~"
        · simp [keyOf, inD, inB, dgetD, findD, ixD, h6, e2, e3, e4, e5, e6]
        · simp [keyOf, inD, inB, dgetD, findD, ixD, h4, h5, h6, e4, e5, e6, eq_comm (b := w)]
/-! ### rows -/
def duesD (ws : List Str) : List Str := ws.mapIdx fun i w => kindS w i
theorem okS_kind (w : Str) (i : Nat) : okS (kindS w i) = true := by
  unfold kindS
  repeat' split
  all_goals decide +kernel
theorem okS_dues {ws : List Str} : ∀ s ∈ duesD ws, okS s = true := by
  intro s hs
  obtain ⟨i, _, rfl⟩ := List.mem_mapIdx.mp hs
  exact okS_kind _ _
def kindF (d : D) : D := match d with
  | .tup [.int i, .str w] => .str (kindS w i.toNat)
  | _ => .non
theorem enum_kinds (ws : List Str) : (enumL (ws.map D.str)).map kindF = (duesD ws).map D.str := by
  refine List.ext_getElem (by simp [enumL, duesD]) fun i h1 h2 => ?_
  simp [kindF, enumL, duesD]
theorem mem_enum {ws : List Str} {x : D} (h : x ∈ enumL (ws.map D.str)) : ∃ (i : Nat) (w : Str), x = .tup [.int i, .str w] ∧ w ∈ ws := by
  obtain ⟨i, hi, rfl⟩ := List.mem_mapIdx.mp h
  refine ⟨i, ws[i]'(by simpa using hi), by simp, List.getElem_mem _⟩
theorem kinds_eq {ws : List Str} (hne : ws ≠ []) (h1 : ws.length ≤ 100) (h2 : ∀ w ∈ ws, w.length ≤ 7 ∧ 32 ∉ tl w) : F_kinds_of [.str (Txt.join (Str.ofString " ") ws)] = .ok (.lst ((duesD ws).map D.str)) := by
  have hs : Txt.split (Txt.join (Str.ofString " ") ws) (Str.ofString " ") = ws := TL.split_join (s := 32) (S := []) (by decide +kernel) (by decide +kernel) hne fun p hp => (h2 p hp).2
  have l1 := len_tjoin (Str.ofString " ") ws
  have l2 := sumLen_le fun p hp => (h2 p hp).1
  have l3 : (Str.ofString " ").length = 1 := by decide +kernel
  rw [l3] at l1
  have hd : splitD (.str (Txt.join (Str.ofString " ") ws)) (.str (Str.ofString " ")) = some (.lst (ws.map D.str)) := by
    rw [splitD, hs, if_pos ⟨by decide +kernel, Nat.le_trans (show _ ≤ 1000 by omega) (by decide)⟩]
  obtain ⟨row, hrow⟩ : ∃ r, r = Txt.join (Str.ofString " ") ws := ⟨_, rfl⟩
  rw [← hrow] at hd ⊢
  have e := lcL_map (sl := [some (.d (.str row)), none, none]) (vs := [1, 2]) (tg := gT 2 (gsC (gN 1) (gsC (gN 2) gsN))) (tt := tYes1) (te := sCall F_kind_of (sCons (sVar 2) (sCons (sVar 1) sNil))) (mm := []) (xs := enumL (ws.map D.str))
    kindF (fun x hx => by
      obtain ⟨i, w, rfl, hw⟩ := mem_enum hx
      simp [lcStep, kind_eq w i (Nat.le_trans (h2 w hw).1 (by decide)), kindF]) []
  have hn : (enumL (ws.map D.str)).length ≤ 10000000 := by simp [enumL]; omega
  simp [F_kinds_of, defF, runF, B_kinds_of, slotsP, hd, enum1, hn, e, enum_kinds]
theorem dues_eq {ws : List Str} {sl : List (Option U)} {mm : List Cell} (hl : sl.length = 9) (h2 : ∀ w ∈ ws, w.length ≤ 7 ∧ 32 ∉ tl w) :
    lcL sl [7, 8] (gT 2 (gsC (gN 7) (gsC (gN 8) gsN))) tYes1 (sCall F__law_kind (sCons (sVar 8) (sCons (sVar 7) sNil))) (enumL (ws.map D.str)) ⟨sl, mm⟩ [] = .ok ((duesD ws).map D.str) ⟨sl, mm⟩ := by
  have e := lcL_map (sl := sl) (vs := [7, 8]) (tg := gT 2 (gsC (gN 7) (gsC (gN 8) gsN))) (tt := tYes1) (te := sCall F__law_kind (sCons (sVar 8) (sCons (sVar 7) sNil))) (mm := mm) (xs := enumL (ws.map D.str))
    kindF (fun x hx => by
      obtain ⟨i, w, rfl, hw⟩ := mem_enum hx
      simp [lcStep, lkind_eq w i (Nat.le_trans (h2 w hw).1 (by decide)), kindF, hl]) []
  rw [e, enum_kinds]
  simp
theorem stream_eq (c : Int) : F__law_stream [.int c] = .ok (.lst [.int (c - 1000000000000000000), .int c, .int 0]) := by
  simp [F__law_stream, defF, runF, B__law_stream, slotsP, powD_10, sizeLine]
def atTop (Γ : Sg) : Prop := Γ.sl = List.replicate 9 none ∧ Γ.mm.all flatC = true
theorem law_true (ns : List Int) (hn : ns.length ≤ 63) : F_law [.fl (ns.map D.int)] = .ok (.bl true) := by
  have k1 : F_kinds_of [.str (Str.ofString "")] = .ok (.lst [.str (Str.ofString "bad")]) := by
    have := kinds_eq (ws := [Str.ofString ""]) (by simp) (by simp) (by intro w hw; rcases List.mem_singleton.mp hw with rfl; decide +kernel)
    rw [show Txt.join (Str.ofString " ") [Str.ofString ""] = Str.ofString "" by decide +kernel] at this
    rw [this, show duesD [Str.ofString ""] = [Str.ofString "bad"] by decide +kernel]
    rfl
  have k2 : F_kinds_of [.str (Str.ofString " ")] = .ok (.lst [.str (Str.ofString "bad"), .str (Str.ofString "bad")]) := by
    have := kinds_eq (ws := [Str.ofString "", Str.ofString ""]) (by simp) (by simp) (by intro w hw; simp at hw; subst hw; decide +kernel)
    rw [show Txt.join (Str.ofString " ") [Str.ofString "", Str.ofString ""] = Str.ofString " " by decide +kernel] at this
    rw [this, show duesD [Str.ofString "", Str.ofString ""] = [Str.ofString "bad", Str.ofString "bad"] by decide +kernel]
    rfl
  have c1 : slD (.fl (ns.map D.int)) none (some 60) = some (.lst ((ns.take 60).map D.int)) := by rw [slD, show (60 : Int) = ((60 : Nat) : Int) from rfl, cut_take ns 60]
  have b1 : okS (Str.ofString "bad") = true := by decide +kernel
  have n1 : neD (.lst [.str (Str.ofString "bad")]) (.lst [.str (Str.ofString "bad")]) = some (.bl false) := by
    have := eqD_strs (ss := [Str.ofString "bad"]) (tt := [Str.ofString "bad"]) (by simp [b1]) (by simp [b1])
    simp only [List.map_cons, List.map_nil] at this
    rw [neD, this]
    simp
  have n2 : neD (.lst [.str (Str.ofString "bad"), .str (Str.ofString "bad")]) (.lst [.str (Str.ofString "bad"), .str (Str.ofString "bad")]) = some (.bl false) := by
    have := eqD_strs (ss := [Str.ofString "bad", Str.ofString "bad"]) (tt := [Str.ofString "bad", Str.ofString "bad"]) (by simp [b1]) (by simp [b1])
    simp only [List.map_cons, List.map_nil] at this
    rw [neD, this]
    simp
  have hl : ((ns.take 60).map D.int).length + 2 ≤ 16777216 := by simp; omega

  have L := forL_inv (fg := [0, 1, 2, 3, 4, 5, 6, 7, 8]) (tg := gN 1) (xs := (ns.take 60 ++ [0, 7]).map D.int) (body := L_law_1) atTop (fun x hx Γ P => by
    obtain ⟨c, _, rfl⟩ := List.mem_map.mp hx
    obtain ⟨sl, mm⟩ := Γ
    obtain ⟨rfl, p2⟩ := P
    obtain ⟨m1, hm1⟩ : ∃ m, m = mm ++ [.p (.lst [.int (c - 1000000000000000000), .int c, .int 0])] := ⟨_, rfl⟩
    have s1 : Sm m1 mm.length 0 m1 := by rw [hm1]; exact Sm.start p2 _ _
    obtain ⟨r, m2, e2, r0, r1, s2⟩ := draw_eq s1 (by decide) 8 (by decide) (by decide)
    obtain ⟨ds, m3, e3, q1, q2, q3⟩ := lcL_inv (sl := [none, some (.d (.int c)), some (.lc mm.length), none, none, none, none, none, none]) (vs := [6]) (tg := gN 6) (tt := tYes1) (te := sCallB F__law_word (sCons (sVar 2) sNil))
      (xs := (List.range (1 + r).toNat).map fun (i : Nat) => D.int (i : Int)) (fun i m => Sm m1 mm.length (1 + 20 * i) m) (fun d => ∃ s, d = .str s ∧ s.length ≤ 7 ∧ 32 ∉ tl s) (fun x hx i m hi hI => by
        simp at hi
        obtain ⟨w, m4, e4, h1, s4⟩ := word_eq hI (by omega)
        exact ⟨.str w, m4, by simp [lcStep, e4], ⟨_, rfl, h1⟩, s4⟩) s2
    obtain ⟨ws, rfl, hws⟩ := strs_of q2
    have l1 : ws.length ≤ 8 := by simp at q1; omega
    have l0 : ws ≠ [] := by rintro rfl; simp at q1; omega
    have hrng : rng1 [.int (1 + r)] = some ((List.range (1 + r).toNat).map fun (i : Nat) => D.int (i : Int)) := if_pos (by omega)
    have hln : 1 + r ≤ 10000000 := by omega
    have hen : (enumL (ws.map D.str)).length ≤ 10000000 := by simp [enumL]; omega
    have l2 := sumLen_le fun p hp => (hws p hp).1
    have hj : joinD (.str (Str.ofString " ")) (.lst (ws.map D.str)) = some (.str (Txt.join (Str.ofString " ") ws)) := joinD_strs (by rw [show (Str.ofString " ").length = 1 by decide +kernel]; omega)
    have hk := kinds_eq l0 (by omega) hws
    have hq := eqD_strs (okS_dues (ws := ws)) (okS_dues (ws := ws))
    have hd : (duesD ws).length < sizeLine := by simp [duesD, sizeLine]; omega
    have hm3 := q3.len
    refine ⟨_, ⟨[none, some (.d (.int c)), some (.lc mm.length), some (.d (.lst (ws.map D.str))), some (.d (.lst ((duesD ws).map D.str))), some (.lc m3.length), none, none, none], m3 ++ [.p (.lst ((duesD ws).map D.str ++ [.str (Str.ofString "bad")]))]⟩, rfl, .inl ?_, rfl, ?_⟩
    · have hdu := dues_eq (ws := ws) (sl := [none, some (.d (.int c)), some (.lc mm.length), some (.d (.lst (ws.map D.str))), none, none, none, none, none]) (mm := m3) rfl hws
      have hnq : neD (.lst ((duesD ws).map D.str)) (.lst ((duesD ws).map D.str)) = some (.bl false) := by rw [neD, hq]; simp
      simp [L_law_1, stream_eq, ← hm1, e2, hrng, hln, e3, enum1, hen, hdu, hj, hk, isiD, kdOf, kcOf, isa1, kitB, hnq, hd]
    · simpa [flatC] using q3.flat) ⟨[some (.d (.fl (ns.map D.int))), none, none, none, none, none, none, none, none], []⟩ ⟨rfl, rfl⟩
  obtain ⟨Γ', h1, h2⟩ := L
  simp at h1
  have hmin : min 60 ns.length ≤ 16777214 := by omega
  simp [F_law, defP, runP, B_law, slotsP, k1, k2, n1, n2, sizeLine, c1, addD, hmin, h1]

def topS (i : Nat) : Stmt := PySem.Challenge.pw_rulestable_k67_kinds_of_words.main.body.getD i (.Pass ⟨0, 0, 0, 0⟩)
abbrev s_is_made_of : Stmt := topS 6
abbrev s_is_sign : Stmt := topS 7
abbrev s_is_head : Stmt := topS 8
abbrev s_kind_of : Stmt := topS 12
abbrev s_kinds_of : Stmt := topS 13
abbrev s__law_cell : Stmt := topS 15
abbrev s__law_stir : Stmt := topS 16
abbrev s__law_stream : Stmt := topS 17
abbrev s__law_draw : Stmt := topS 18
abbrev s__law_is_sign : Stmt := topS 19
abbrev s__law_is_head : Stmt := topS 20
abbrev s__law_word : Stmt := topS 21
abbrev s__law_kind : Stmt := topS 22
abbrev s_law : Stmt := topS 23
theorem bt_all : bootBuiltins "all" = some (.builtin "all") := by decide +kernel
theorem bt_enumerate : bootBuiltins "enumerate" = some (.type "enumerate") := by decide +kernel
theorem bt_isinstance : bootBuiltins "isinstance" = some (.builtin "isinstance") := by decide +kernel
theorem bt_len : bootBuiltins "len" = some (.builtin "len") := by decide +kernel
theorem bt_list : bootBuiltins "list" = some (.type "list") := by decide +kernel
theorem bt_range : bootBuiltins "range" = some (.type "range") := by decide +kernel
theorem bt_str : bootBuiltins "str" = some (.type "str") := by decide +kernel
structure Txt (K : PySem.W.Frag) (w : World) (kt : List Addr) (mg : Str → Option Value) : Prop where
  isa : IsaOk K isa
  b_all : mg "all" = none
  b_enumerate : mg "enumerate" = none
  b_isinstance : mg "isinstance" = none
  b_len : mg "len" = none
  b_list : mg "list" = none
  b_range : mg "range" = none
  b_str : mg "str" = none
  g_FIGURES : G.GlobIs mg "FIGURES" (.str (Str.ofString "0123456789"))
  g_GREAT : G.GlobIs mg "GREAT" (.str (Str.ofString "ABCDEFGHIJKLMNOPQRSTUVWXYZ"))
  g_LONGEST : G.GlobIs mg "LONGEST" (.int 6)
  g_MARKS : mg "MARKS" = some (.ref (kt.getD 0 0))
  kd_MARKS : KTab K w (kt.getD 0 0) k_MARKS
  g_OTHERS : G.GlobIs mg "OTHERS" (.str (Str.ofString "+-*/()[]=<>,;.!?^&"))
  g_SIDES : G.GlobIs mg "SIDES" (.ref (kt.getD 1 0))
  kt_SIDES : ∀ I, Rp K I (.ref (kt.getD 1 0)) (.kt (List.map D.str k_SIDES))
  g_SMALL : G.GlobIs mg "SMALL" (.str (Str.ofString "abcdefghijklmnopqrstuvwxyz"))
theorem sc_is_made_of : FnScope ["text", "some", "sign"] ["text", "some"] (defScope s_is_made_of) := ⟨rfl, rfl, rfl, by decide +kernel, rfl, by decide +kernel, by decide +kernel⟩
theorem ok_is_made_of {P : Program} {w : World} {K : PySem.W.Frag} {mg : Str → Option Value} {base : Heap} {kt : List Addr} (T : Txt K w kt mg) (F : G.DefAt K mg "is_made_of" "is_made_of" s_is_made_of ["text", "some"]) : Cal P w K mg base "is_made_of" 1 ["text", "some"] (spP K F_is_made_of) := by
  have nd := sc_is_made_of.nd
  exact okd_P (body := B_is_made_of) F sc_is_made_of rfl rfl (fun f cdv A outer s H EX hr => ⟨_, (pss_one (ps_ret (pe_callB (G.k_all K rfl rfl) (by rfl) T.b_all bt_all (pa_cons (pe_lc (own := [("sign", 2)]) rfl nd (G.k_it K rfl (pv 0)) (blkOk_by (N := ["text", "some", "sign"]) (sc := defScope s_is_made_of) (by decide +kernel)) (fun _ _ _ _ _ => (pg_name (i := 2) nd rfl (by first | exact Or.inl rfl | exact Or.inr rfl))) (fun _ _ _ _ _ => pts_nil) (fun _ _ _ _ _ => (pe_cmpR (k_in K (u65 hr)) (pv 2) (pv 1) (by rfl)))) pa_nil)))),
    (ss_ret (se_cb ca_all (sa_cons (se_lc (si_u se_var) tg_name st_yes (se_op bs_in se_var se_var)) sa_nil)))⟩)
theorem sc__law_cell : FnScope ["_law_script", "_law_k"] ["_law_script", "_law_k"] (defScope s__law_cell) := ⟨rfl, rfl, rfl, by decide +kernel, rfl, by decide +kernel, by decide +kernel⟩
theorem ok__law_cell {P : Program} {w : World} {K : PySem.W.Frag} {mg : Str → Option Value} {base : Heap} {kt : List Addr} (T : Txt K w kt mg) (F : G.DefAt K mg "_law_cell" "_law_cell" s__law_cell ["_law_script", "_law_k"]) : Cal P w K mg base "_law_cell" 1 ["_law_script", "_law_k"] (spP K F__law_cell) := by
  have nd := sc__law_cell.nd
  exact okd_P (body := B__law_cell) F sc__law_cell rfl rfl (fun f cdv A outer s H EX hr => ⟨_, (pss_cons (ps_if (pt_cmpR G.op_uLt (pv 1) (pe_callB (G.k_len K) (by rfl) T.b_len bt_len (pa_cons (pv 0) pa_nil)) (nomark _)) (pss_one (ps_ret (pe_ix (k_ix K (u65 hr)) (pv 0) (pv 1) (fun _ _ => rfl)))) pss_nil)
      (pss_one (ps_ret pe_int))),
    (ss_seq (ss_if (st_test (se_op bs_lt se_var (se_cb ca_len (sa_cons se_var sa_nil)))) (ss_ret (se_ix se_var se_var)) ss_nx)
      (ss_ret se_int))⟩)
theorem sc__law_stir : FnScope ["_law_cell_here", "_law_k", "_law_number"] ["_law_cell_here", "_law_k"] (defScope s__law_stir) := ⟨rfl, rfl, rfl, by decide +kernel, rfl, by decide +kernel, by decide +kernel⟩
theorem ok__law_stir {P : Program} {w : World} {K : PySem.W.Frag} {mg : Str → Option Value} {base : Heap} {kt : List Addr} (T : Txt K w kt mg) (F : G.DefAt K mg "_law_stir" "_law_stir" s__law_stir ["_law_cell_here", "_law_k"]) : Cal P w K mg base "_law_stir" 1 ["_law_cell_here", "_law_k"] (spP K F__law_stir) := by
  have nd := sc__law_stir.nd
  exact okd_P (body := B__law_stir) F sc__law_stir rfl rfl (fun f cdv A outer s H EX hr => ⟨_, (pss_cons (ps_set (i := 2) nd rfl (Or.inl rfl) (pe_op op_modN (pe_op (G.k_add K) (pe_op (G.k_add K) (pe_op G.op_uMul (pe_op op_modN (pv 0) pe_int) pe_int) (pe_op G.op_uMul pe_int (pv 1))) pe_int) pe_int))
      (pss_cons (ps_set (i := 2) nd rfl (Or.inl rfl) (pe_op op_modN (pe_op G.op_uMul (pv 2) (pv 2)) pe_int))
      (pss_one (ps_ret (pe_op op_modN (pe_op (G.k_add K) (pe_op (G.k_add K) (pe_op G.op_uMul (pv 2) (pv 2)) (pe_op G.op_uMul pe_int (pv 2))) pe_int) pe_int))))),
    (ss_seq (ss_asg (se_op bs_mod (se_op bs_add (se_op bs_add (se_op bs_mul (se_op bs_mod se_var se_int) se_int) (se_op bs_mul se_int se_var)) se_int) se_int) tg_name)
      (ss_seq (ss_asg (se_op bs_mod (se_op bs_mul se_var se_var) se_int) tg_name)
      (ss_ret (se_op bs_mod (se_op bs_add (se_op bs_add (se_op bs_mul se_var se_var) (se_op bs_mul se_int se_var)) se_int) se_int))))⟩)
theorem sc__law_stream : FnScope ["_law_cell_here"] ["_law_cell_here"] (defScope s__law_stream) := ⟨rfl, rfl, rfl, by decide +kernel, rfl, by decide +kernel, by decide +kernel⟩
theorem ok__law_stream {P : Program} {w : World} {K : PySem.W.Frag} {mg : Str → Option Value} {base : Heap} {kt : List Addr} (T : Txt K w kt mg) (F : G.DefAt K mg "_law_stream" "_law_stream" s__law_stream ["_law_cell_here"]) : Cal P w K mg base "_law_stream" 1 ["_law_cell_here"] (spF K F__law_stream) := by
  have nd := sc__law_stream.nd
  exact okd_F (body := B__law_stream) F sc__law_stream rfl rfl (fun f cdv A outer s H EX hr => ⟨_, (pss_one (ps_ret (pe_lst (pa_cons (pe_op op_sub (pv 0) (pe_op op_pow pe_int pe_int)) (pa_cons (pv 0) (pa_cons pe_int pa_nil)))))),
    (ss_retF (se_lstA (sa_cons (se_op bs_sub se_var (se_op bs_pow se_int se_int)) (sa_cons se_var (sa_cons se_int sa_nil)))))⟩)
theorem sc__law_is_sign : FnScope ["_law_word_here", "_law_signs", "_law_sign"] ["_law_word_here"] (defScope s__law_is_sign) := ⟨rfl, rfl, rfl, by decide +kernel, rfl, by decide +kernel, by decide +kernel⟩
theorem ok__law_is_sign {P : Program} {w : World} {K : PySem.W.Frag} {mg : Str → Option Value} {base : Heap} {kt : List Addr} (T : Txt K w kt mg) (F : G.DefAt K mg "_law_is_sign" "_law_is_sign" s__law_is_sign ["_law_word_here"]) : Cal P w K mg base "_law_is_sign" 1 ["_law_word_here"] (spP K F__law_is_sign) := by
  have nd := sc__law_is_sign.nd
  exact okd_P (body := B__law_is_sign) F sc__law_is_sign rfl rfl (fun f cdv A outer s H EX hr => ⟨_, (pss_cons (ps_set (i := 1) nd rfl (Or.inr rfl) pe_str)
      (pss_one (ps_ret (pe_and (pe_chain G.op_uLe G.op_uLe pe_int (pe_callB (G.k_len K) (by rfl) T.b_len bt_len (pa_cons (pv 0) pa_nil)) pe_int) (pe_one (pe_cmpR (G.k_eq K rfl hr.units) (pe_callB (G.k_len K) (by rfl) T.b_len bt_len (pa_cons (pe_lc (own := [("_law_sign", 2)]) rfl nd (G.k_it K rfl (pv 0)) (blkOk_by (N := ["_law_word_here", "_law_signs", "_law_sign"]) (sc := defScope s__law_is_sign) (by decide +kernel)) (fun _ _ _ _ _ => (pg_name (i := 2) nd rfl (by first | exact Or.inl rfl | exact Or.inr rfl))) (fun _ _ _ _ _ => (pts_one (pt_cmpR (k_ni K (u65 hr)) (pv 2) (pv 1) (by rfl)))) (fun _ _ _ _ _ => (pv 2))) pa_nil)) pe_int (nomark _))))))),
    (ss_seq (ss_asg se_str tg_name)
      (ss_ret (se_andV (se_chain bs_le bs_le se_int (se_cb ca_len (sa_cons se_var sa_nil)) se_int) (se_op bs_eq (se_cb ca_len (sa_cons (se_lc (si_u se_var) tg_name (st_test (se_op bs_ni se_var se_var)) se_var) sa_nil)) se_int))))⟩)
theorem sc__law_is_head : FnScope ["_law_word_here", "_law_sign"] ["_law_word_here"] (defScope s__law_is_head) := ⟨rfl, rfl, rfl, by decide +kernel, rfl, by decide +kernel, by decide +kernel⟩
theorem ok__law_is_head {P : Program} {w : World} {K : PySem.W.Frag} {mg : Str → Option Value} {base : Heap} {kt : List Addr} (T : Txt K w kt mg) (F : G.DefAt K mg "_law_is_head" "_law_is_head" s__law_is_head ["_law_word_here"]) : Cal P w K mg base "_law_is_head" 1 ["_law_word_here"] (spP K F__law_is_head) := by
  have nd := sc__law_is_head.nd
  exact okd_P (body := B__law_is_head) F sc__law_is_head rfl rfl (fun f cdv A outer s H EX hr => ⟨_, (pss_cons (ps_if (PW.pt (pw_or (pt_not (pt_chain G.op_uLe G.op_uLe pe_int (pe_callB (G.k_len K) (by rfl) T.b_len bt_len (pa_cons (pv 0) pa_nil)) pe_int)) (pw_or1 (pt_cmpR (k_ni K (u65 hr)) (pe_ix (k_ix K (u65 hr)) (pv 0) pe_int (fun _ _ => rfl)) pe_str (by rfl))))) (pss_one (ps_ret pe_bl)) pss_nil)
      (pss_one (ps_ret (pe_cmpR (G.k_eq K rfl hr.units) (pe_callB (G.k_len K) (by rfl) T.b_len bt_len (pa_cons (pe_lc (own := [("_law_sign", 1)]) rfl nd (G.k_it K rfl (pe_slice (G.k_sl K) (pv 0) (po_some pe_int) po_none)) (blkOk_by (N := ["_law_word_here", "_law_sign"]) (sc := defScope s__law_is_head) (by decide +kernel)) (fun _ _ _ _ _ => (pg_name (i := 1) nd rfl (by first | exact Or.inl rfl | exact Or.inr rfl))) (fun _ _ _ _ _ => (pts_one (pt_cmpR (k_ni K (u65 hr)) (pv 1) pe_str (by rfl)))) (fun _ _ _ _ _ => (pv 1))) pa_nil)) pe_int (nomark _))))),
    (ss_seq (ss_if (st_or (st_not (st_test (se_chain bs_le bs_le se_int (se_cb ca_len (sa_cons se_var sa_nil)) se_int))) (st_test (se_op bs_ni (se_ix se_var se_int) se_str))) (ss_ret se_bl) ss_nx)
      (ss_ret (se_op bs_eq (se_cb ca_len (sa_cons (se_lc (si_u (se_sl ss_slD se_var (so_some se_int) so_none)) tg_name (st_test (se_op bs_ni se_var se_str)) se_var) sa_nil)) se_int)))⟩)
theorem sc_is_sign : FnScope ["thing"] ["thing"] (defScope s_is_sign) := ⟨rfl, rfl, rfl, by decide +kernel, rfl, by decide +kernel, by decide +kernel⟩
theorem ok_is_sign {P : Program} {w : World} {K : PySem.W.Frag} {mg : Str → Option Value} {base : Heap} {kt : List Addr} (T : Txt K w kt mg) (F : G.DefAt K mg "is_sign" "is_sign" s_is_sign ["thing"]) (c_is_made_of : Cal P w K mg base "is_made_of" 1 ["text", "some"] (spP K F_is_made_of)) : Cal P w K mg base "is_sign" 2 ["thing"] (spP K F_is_sign) := by
  have nd := sc_is_sign.nd
  exact okd_P (body := B_is_sign) F sc_is_sign rfl rfl (fun f cdv A outer s H EX hr => ⟨_, (pss_cons (ps_if (PW.pt (pw_or (pt_not (pt_val (pe_callB (k_isi K) (by rfl) T.b_isinstance bt_isinstance (pa_cons (pv 0) (pa_cons (pe_bltn (v := .ty "str") (by rfl) T.b_str bt_str rfl) pa_nil))))) (pw_or1 (pt_not (pt_chain G.op_uLe G.op_uLe pe_int (pe_callB (G.k_len K) (by rfl) T.b_len bt_len (pa_cons (pv 0) pa_nil)) (G.pe_gl T.g_LONGEST)))))) (pss_one (ps_ret pe_bl)) pss_nil)
      (pss_one (ps_ret (k_cal K c_is_made_of hr (by decide) G.takes_cx (by rfl) (pa_cons (pv 0) (pa_cons (pe_op (G.k_add K) (pe_op (G.k_add K) (G.pe_gl T.g_SMALL) (G.pe_gl T.g_FIGURES)) (G.pe_gl T.g_OTHERS)) pa_nil)))))),
    (ss_seq (ss_if (st_or (st_not (st_b (se_cb (ca_isi T.isa) (sa_cons se_var (sa_cons se_ty sa_nil))))) (st_not (st_test (se_chain bs_le bs_le se_int (se_cb ca_len (sa_cons se_var sa_nil)) se_int)))) (ss_ret se_bl) ss_nx)
      (ss_ret (se_call (sa_cons se_var (sa_cons (se_op bs_add (se_op bs_add se_str se_str) se_str) sa_nil)))))⟩)
theorem sc_is_head : FnScope ["thing"] ["thing"] (defScope s_is_head) := ⟨rfl, rfl, rfl, by decide +kernel, rfl, by decide +kernel, by decide +kernel⟩
theorem ok_is_head {P : Program} {w : World} {K : PySem.W.Frag} {mg : Str → Option Value} {base : Heap} {kt : List Addr} (T : Txt K w kt mg) (F : G.DefAt K mg "is_head" "is_head" s_is_head ["thing"]) (c_is_made_of : Cal P w K mg base "is_made_of" 1 ["text", "some"] (spP K F_is_made_of)) : Cal P w K mg base "is_head" 2 ["thing"] (spP K F_is_head) := by
  have nd := sc_is_head.nd
  exact okd_P (body := B_is_head) F sc_is_head rfl rfl (fun f cdv A outer s H EX hr => ⟨_, (pss_cons (ps_if (PW.pt (pw_or (pt_not (pt_val (pe_callB (k_isi K) (by rfl) T.b_isinstance bt_isinstance (pa_cons (pv 0) (pa_cons (pe_bltn (v := .ty "str") (by rfl) T.b_str bt_str rfl) pa_nil))))) (pw_or1 (pt_not (pt_chain G.op_uLe G.op_uLe pe_int (pe_callB (G.k_len K) (by rfl) T.b_len bt_len (pa_cons (pv 0) pa_nil)) (G.pe_gl T.g_LONGEST)))))) (pss_one (ps_ret pe_bl)) pss_nil)
      (pss_one (ps_ret (pe_and (pe_cmpR (k_in K (u65 hr)) (pe_ix (k_ix K (u65 hr)) (pv 0) pe_int (fun _ _ => rfl)) (G.pe_gl T.g_GREAT) (by rfl)) (pe_one (k_cal K c_is_made_of hr (by decide) G.takes_cx (by rfl) (pa_cons (pe_slice (G.k_sl K) (pv 0) (po_some pe_int) po_none) (pa_cons (pe_op (G.k_add K) (G.pe_gl T.g_SMALL) (G.pe_gl T.g_FIGURES)) pa_nil)))))))),
    (ss_seq (ss_if (st_or (st_not (st_b (se_cb (ca_isi T.isa) (sa_cons se_var (sa_cons se_ty sa_nil))))) (st_not (st_test (se_chain bs_le bs_le se_int (se_cb ca_len (sa_cons se_var sa_nil)) se_int)))) (ss_ret se_bl) ss_nx)
      (ss_ret (se_andV (se_op bs_in (se_ix se_var se_int) se_str) (se_call (sa_cons (se_sl ss_slD se_var (so_some se_int) so_none) (sa_cons (se_op bs_add se_str se_str) sa_nil))))))⟩)
theorem sc__law_draw : FnScope ["_law_left", "_law_many", "_law_found"] ["_law_left", "_law_many"] (defScope s__law_draw) := ⟨rfl, rfl, rfl, by decide +kernel, rfl, by decide +kernel, by decide +kernel⟩
theorem ok__law_draw {P : Program} {w : World} {K : PySem.W.Frag} {mg : Str → Option Value} {base : Heap} {kt : List Addr} (T : Txt K w kt mg) (F : G.DefAt K mg "_law_draw" "_law_draw" s__law_draw ["_law_left", "_law_many"]) (c__law_stir : Cal P w K mg base "_law_stir" 1 ["_law_cell_here", "_law_k"] (spP K F__law_stir)) : Cal P w K mg base "_law_draw" 2 ["_law_left", "_law_many"] (spB K F__law_draw) := by
  have nd := sc__law_draw.nd
  exact okd_B (body := B__law_draw) F sc__law_draw rfl rfl (fun f cdv A outer s H EX hr => ⟨_, (pss_cons (ps_asg (pe_op (G.k_add K) (pe_ix (k_ix K (u65 hr)) (pv 0) pe_int (fun _ _ => rfl)) pe_int) (pg_sub (pv 0) pe_int set_list))
      (pss_cons (ps_if (pt_cmpR G.op_uGe (pe_ix (k_ix K (u65 hr)) (pv 0) pe_int (fun _ _ => rfl)) (pe_op op_pow pe_int pe_int) (nomark _)) (pss_cons (ps_set (i := 2) nd rfl (Or.inl rfl) (pe_op op_modN (pe_ix (k_ix K (u65 hr)) (pv 0) pe_int (fun _ _ => rfl)) (pv 1)))
      (pss_cons (ps_asg (pe_op op_fdivW (pe_ix (k_ix K (u65 hr)) (pv 0) pe_int (fun _ _ => rfl)) (pv 1)) (pg_sub (pv 0) pe_int set_list))
      (pss_one (ps_ret (pv 2))))) pss_nil)
      (pss_one (ps_ret (pe_op op_modN (pe_op op_fdivW (k_cal K c__law_stir hr (by decide) G.takes_cx (by rfl) (pa_cons (pe_ix (k_ix K (u65 hr)) (pv 0) pe_int (fun _ _ => rfl)) (pa_cons (pe_ix (k_ix K (u65 hr)) (pv 0) pe_int (fun _ _ => rfl)) pa_nil))) pe_int) (pv 1)))))),
    (ss_seq (ss_setL (se_op bs_add (se_ix se_var se_int) se_int) se_var se_int)
      (ss_seq (ss_if (st_test (se_op bs_ge (se_ix se_var se_int) (se_op bs_pow se_int se_int))) (ss_seq (ss_asg (se_op bs_mod (se_ix se_var se_int) se_var) tg_name)
      (ss_seq (ss_setL (se_op bs_div (se_ix se_var se_int) se_var) se_var se_int)
      (ss_ret se_var))) ss_nx)
      (ss_ret (se_op bs_mod (se_op bs_div (se_call (sa_cons (se_ix se_var se_int) (sa_cons (se_ix se_var se_int) sa_nil))) se_int) se_var))))⟩)
theorem sc__law_kind : FnScope ["_law_word_here", "_law_at", "_law_marks"] ["_law_word_here", "_law_at"] (defScope s__law_kind) := ⟨rfl, rfl, rfl, by decide +kernel, rfl, by decide +kernel, by decide +kernel⟩
theorem ok__law_kind {P : Program} {w : World} {K : PySem.W.Frag} {mg : Str → Option Value} {base : Heap} {kt : List Addr} (T : Txt K w kt mg) (F : G.DefAt K mg "_law_kind" "_law_kind" s__law_kind ["_law_word_here", "_law_at"]) (c__law_is_head : Cal P w K mg base "_law_is_head" 1 ["_law_word_here"] (spP K F__law_is_head)) (c__law_is_sign : Cal P w K mg base "_law_is_sign" 1 ["_law_word_here"] (spP K F__law_is_sign)) : Cal P w K mg base "_law_kind" 2 ["_law_word_here", "_law_at"] (spP K F__law_kind) := by
  have nd := sc__law_kind.nd
  exact okd_P (body := B__law_kind) F sc__law_kind rfl rfl (fun f cdv A outer s H EX hr => ⟨_, (pss_cons (ps_if (PW.pt (pw_and (pt_cmpR (G.k_eq K rfl hr.units) (pv 1) pe_int (nomark _)) (pw_and1 (pt_cmpR (k_in K (u65 hr)) (pv 0) (pe_lst (pa_cons pe_str (pa_cons pe_str (pa_cons pe_str pa_nil)))) (by rfl))))) (pss_one (ps_ret pe_str)) pss_nil)
      (pss_cons (ps_if (pt_val (k_cal K c__law_is_head hr (by decide) G.takes_cx (by rfl) (pa_cons (pv 0) pa_nil))) (pss_one (ps_ret pe_str)) pss_nil)
      (pss_cons (ps_if (pt_val (k_cal K c__law_is_sign hr (by decide) G.takes_cx (by rfl) (pa_cons (pv 0) pa_nil))) (pss_one (ps_ret pe_str)) pss_nil)
      (pss_cons (ps_set (i := 2) nd rfl (Or.inl rfl) (pe_disp (pps_cons pe_str pe_str (pps_cons pe_str pe_str (pps_cons pe_str pe_str pps_nil))) (by rfl) (by rfl) (fun z => by cases z) (by decide)))
      (pss_cons (ps_if (pt_cmpR (k_in K (u65 hr)) (pv 0) (pv 2) (by rfl)) (pss_one (ps_ret (pe_ix (k_ix K (u65 hr)) (pv 2) (pv 0) (fun _ _ => rfl)))) pss_nil)
      (pss_one (ps_ret pe_str))))))),
    (ss_seq (ss_if (st_and (st_test (se_op bs_eq se_var se_int)) (st_test (se_op bs_in se_var (se_lst (sa_cons se_str (sa_cons se_str (sa_cons se_str sa_nil))))))) (ss_ret se_str) ss_nx)
      (ss_seq (ss_if (st_b (se_call (sa_cons se_var sa_nil))) (ss_ret se_str) ss_nx)
      (ss_seq (ss_if (st_b (se_call (sa_cons se_var sa_nil))) (ss_ret se_str) ss_nx)
      (ss_seq (ss_asg (se_disp (sp_cons se_str se_str (sp_cons se_str se_str (sp_cons se_str se_str sp_nil)))) tg_name)
      (ss_seq (ss_if (st_test (se_op bs_in se_var se_var)) (ss_ret (se_ix se_var se_var)) ss_nx)
      (ss_ret se_str))))))⟩)
theorem sc_kind_of : FnScope ["word", "at"] ["word", "at"] (defScope s_kind_of) := ⟨rfl, rfl, rfl, by decide +kernel, rfl, by decide +kernel, by decide +kernel⟩
theorem ok_kind_of {P : Program} {w : World} {K : PySem.W.Frag} {mg : Str → Option Value} {base : Heap} {kt : List Addr} (T : Txt K w kt mg) (F : G.DefAt K mg "kind_of" "kind_of" s_kind_of ["word", "at"]) (c_is_head : Cal P w K mg base "is_head" 2 ["thing"] (spP K F_is_head)) (c_is_sign : Cal P w K mg base "is_sign" 2 ["thing"] (spP K F_is_sign)) : Cal P w K mg base "kind_of" 3 ["word", "at"] (spP K F_kind_of) := by
  have nd := sc_kind_of.nd
  exact okd_P (body := B_kind_of) F sc_kind_of rfl rfl (fun f cdv A outer s H EX hr => ⟨_, (pss_cons (ps_if (PW.pt (pw_and (pt_cmpR (G.k_eq K rfl hr.units) (pv 1) pe_int (nomark _)) (pw_and1 (pt_cmpR (k_in K (u65 hr)) (pv 0) (G.pe_gl T.g_SIDES) (by rfl))))) (pss_one (ps_ret pe_str)) pss_nil)
      (pss_cons (ps_if (pt_val (k_cal K c_is_head hr (by decide) G.takes_cx (by rfl) (pa_cons (pv 0) pa_nil))) (pss_one (ps_ret pe_str)) pss_nil)
      (pss_cons (ps_if (pt_val (k_cal K c_is_sign hr (by decide) G.takes_cx (by rfl) (pa_cons (pv 0) pa_nil))) (pss_one (ps_ret pe_str)) pss_nil)
      (pss_one (ps_ret (pe_kget T.kd_MARKS (by rfl) T.g_MARKS (pv 0) pe_str ⟨by rfl, by rfl, by rfl, by rfl⟩)))))),
    (ss_seq (ss_if (st_and (st_test (se_op bs_eq se_var se_int)) (st_test (se_op bs_in se_var (se_c T.kt_SIDES)))) (ss_ret se_str) ss_nx)
      (ss_seq (ss_if (st_b (se_call (sa_cons se_var sa_nil))) (ss_ret se_str) ss_nx)
      (ss_seq (ss_if (st_b (se_call (sa_cons se_var sa_nil))) (ss_ret se_str) ss_nx)
      (ss_ret (se_kget se_var se_str)))))⟩)
theorem sc__law_word : FnScope ["_law_left", "_law_some", "_law_number", "_law_signs", "_law_k"] ["_law_left"] (defScope s__law_word) := ⟨rfl, rfl, rfl, by decide +kernel, rfl, by decide +kernel, by decide +kernel⟩
theorem ok__law_word {P : Program} {w : World} {K : PySem.W.Frag} {mg : Str → Option Value} {base : Heap} {kt : List Addr} (T : Txt K w kt mg) (F : G.DefAt K mg "_law_word" "_law_word" s__law_word ["_law_left"]) (c__law_draw : Cal P w K mg base "_law_draw" 2 ["_law_left", "_law_many"] (spB K F__law_draw)) : Cal P w K mg base "_law_word" 3 ["_law_left"] (spB K F__law_word) := by
  have nd := sc__law_word.nd
  exact okd_B (body := B__law_word) F sc__law_word rfl rfl (fun f cdv A outer s H EX hr => ⟨_, (pss_cons (ps_set (i := 1) nd rfl (Or.inl rfl) (pe_lst (pa_cons pe_str (pa_cons pe_str (pa_cons pe_str (pa_cons pe_str (pa_cons pe_str (pa_cons pe_str (pa_cons pe_str (pa_cons pe_str (pa_cons pe_str (pa_cons pe_str (pa_cons pe_str (pa_cons pe_str (pa_cons pe_str (pa_cons pe_str pa_nil))))))))))))))))
      (pss_cons (ps_set (i := 1) nd rfl (Or.inl rfl) (pe_op (G.k_add K) (pv 1) (pe_lst (pa_cons pe_str (pa_cons pe_str (pa_cons pe_str (pa_cons pe_str (pa_cons pe_str (pa_cons pe_str (pa_cons pe_str (pa_cons pe_str (pa_cons pe_str (pa_cons pe_str (pa_cons pe_str (pa_cons pe_str (pa_cons pe_str (pa_cons pe_str pa_nil)))))))))))))))))
      (pss_cons (ps_set (i := 1) nd rfl (Or.inl rfl) (pe_op (G.k_add K) (pv 1) (pe_lst (pa_cons pe_str (pa_cons pe_str (pa_cons pe_str (pa_cons pe_str pa_nil)))))))
      (pss_cons (ps_set (i := 2) nd rfl (Or.inl rfl) (k_cal K c__law_draw hr (by decide) G.takes_cx (by rfl) (pa_cons (pv 0) (pa_cons pe_int pa_nil))))
      (pss_cons (ps_if (pt_cmpR G.op_uLt (pv 2) pe_int (nomark _)) (pss_one (ps_ret (pe_ix (k_ix K (u65 hr)) (pv 1) (pv 2) (fun _ _ => rfl)))) pss_nil)
      (pss_cons (ps_set (i := 3) nd rfl (Or.inr rfl) pe_str)
      (pss_one (ps_ret (G.k_join K rfl pe_str (pe_lc (own := [("_law_k", 4)]) rfl nd (pi_range1 (by rfl) T.b_range (pa_cons (pe_op (G.k_add K) pe_int (k_cal K c__law_draw hr (by decide) G.takes_cx (by rfl) (pa_cons (pv 0) (pa_cons pe_int pa_nil)))) pa_nil)) (blkOk_by (N := ["_law_left", "_law_some", "_law_number", "_law_signs", "_law_k"]) (sc := defScope s__law_word) (by decide +kernel)) (fun _ _ _ _ _ => (pg_name (i := 4) nd rfl (by first | exact Or.inl rfl | exact Or.inr rfl))) (fun _ _ _ _ _ => pts_nil) (fun _ _ _ _ _ => (pe_ix (k_ix K (u65 hr)) (pv 3) (k_cal K c__law_draw hr (by decide) takes0 (by rfl) (pa_cons (pv 0) (pa_cons (pe_callB (G.k_len K) (by rfl) T.b_len bt_len (pa_cons (pv 3) pa_nil)) pa_nil))) (fun _ _ => rfl))))))))))))),
    (ss_seq (ss_asg (se_lst (sa_cons se_str (sa_cons se_str (sa_cons se_str (sa_cons se_str (sa_cons se_str (sa_cons se_str (sa_cons se_str (sa_cons se_str (sa_cons se_str (sa_cons se_str (sa_cons se_str (sa_cons se_str (sa_cons se_str (sa_cons se_str sa_nil))))))))))))))) tg_name)
      (ss_seq (ss_asg (se_op bs_add se_var (se_lst (sa_cons se_str (sa_cons se_str (sa_cons se_str (sa_cons se_str (sa_cons se_str (sa_cons se_str (sa_cons se_str (sa_cons se_str (sa_cons se_str (sa_cons se_str (sa_cons se_str (sa_cons se_str (sa_cons se_str (sa_cons se_str sa_nil)))))))))))))))) tg_name)
      (ss_seq (ss_asg (se_op bs_add se_var (se_lst (sa_cons se_str (sa_cons se_str (sa_cons se_str (sa_cons se_str sa_nil)))))) tg_name)
      (ss_seq (ss_asg (se_callB (sa_cons se_var (sa_cons se_int sa_nil))) tg_name)
      (ss_seq (ss_if (st_test (se_op bs_lt se_var se_int)) (ss_ret (se_ix se_var se_var)) ss_nx)
      (ss_seq (ss_asg se_str tg_name)
      (ss_ret (se_m1 bs_join se_str (se_lc (si_rng1 (sa_cons (se_op bs_add se_int (se_callB (sa_cons se_var (sa_cons se_int sa_nil)))) sa_nil)) tg_name st_yes (se_ix se_var (se_callB (sa_cons se_var (sa_cons (se_cb ca_len (sa_cons se_var sa_nil)) sa_nil)))))))))))))⟩)
theorem sc_kinds_of : FnScope ["row", "at", "word"] ["row"] (defScope s_kinds_of) := ⟨rfl, rfl, rfl, by decide +kernel, rfl, by decide +kernel, by decide +kernel⟩
theorem ok_kinds_of {P : Program} {w : World} {K : PySem.W.Frag} {mg : Str → Option Value} {base : Heap} {kt : List Addr} (T : Txt K w kt mg) (F : G.DefAt K mg "kinds_of" "kinds_of" s_kinds_of ["row"]) (c_kind_of : Cal P w K mg base "kind_of" 3 ["word", "at"] (spP K F_kind_of)) : Cal P w K mg base "kinds_of" 4 ["row"] (spF K F_kinds_of) := by
  have nd := sc_kinds_of.nd
  exact okd_F (body := B_kinds_of) F sc_kinds_of rfl rfl (fun f cdv A outer s H EX hr => ⟨_, (pss_one (ps_ret (pe_lc (own := [("at", 1), ("word", 2)]) rfl nd (G.k_enum K rfl (by rfl) T.b_enumerate (pa_cons (pe_split (pv 0) pe_str) pa_nil)) (blkOk_by (N := ["row", "at", "word"]) (sc := defScope s_kinds_of) (by decide +kernel)) (fun _ _ _ _ _ => (G.k_tup K rfl rfl (pgs_cons (pg_name (i := 1) nd rfl (by first | exact Or.inl rfl | exact Or.inr rfl)) (pgs_cons (pg_name (i := 2) nd rfl (by first | exact Or.inl rfl | exact Or.inr rfl)) pgs_nil)))) (fun _ _ _ _ _ => pts_nil) (fun _ _ _ _ _ => (k_cal K c_kind_of hr (by decide) takes0 (by rfl) (pa_cons (pv 2) (pa_cons (pv 1) pa_nil))))))),
    (ss_retF (se_lcA (si_enum (sa_cons (se_m1 (BinF.s bf_split) se_var se_str) sa_nil)) (tg_tup (tgs_cons tg_name (tgs_cons tg_name tgs_nil))) st_yes (se_call (sa_cons se_var (sa_cons se_var sa_nil)))))⟩)
theorem sc_law : FnScope ["_law_script", "_law_cell_here", "_law_left", "_law_words", "_law_due", "_law_told", "_law_k", "_law_at", "_law_word_here"] ["_law_script"] (defScope s_law) := ⟨rfl, rfl, rfl, by decide +kernel, rfl, by decide +kernel, by decide +kernel⟩
theorem ok_law {P : Program} {w : World} {K : PySem.W.Frag} {mg : Str → Option Value} {base : Heap} {kt : List Addr} (T : Txt K w kt mg) (F : G.DefAt K mg "law" "law" s_law ["_law_script"]) (c__law_stream : Cal P w K mg base "_law_stream" 1 ["_law_cell_here"] (spF K F__law_stream)) (c_kinds_of : Cal P w K mg base "kinds_of" 4 ["row"] (spF K F_kinds_of)) (c__law_word : Cal P w K mg base "_law_word" 3 ["_law_left"] (spB K F__law_word)) (c__law_kind : Cal P w K mg base "_law_kind" 2 ["_law_word_here", "_law_at"] (spP K F__law_kind)) (c__law_draw : Cal P w K mg base "_law_draw" 2 ["_law_left", "_law_many"] (spB K F__law_draw)) : Cal P w K mg base "law" 5 ["_law_script"] (spP K F_law) := by
  have nd := sc_law.nd
  exact okd_P (body := B_law) F sc_law rfl rfl (fun f cdv A outer s H EX hr => ⟨_, (pss_cons (ps_if (PW.pt (pw_or (pt_cmpR (G.k_ne K rfl hr.units) (k_cal K c_kinds_of hr (by decide) G.takes_cx (by rfl) (pa_cons pe_str pa_nil)) (pe_lst (pa_cons pe_str pa_nil)) (nomark _)) (pw_or1 (pt_cmpR (G.k_ne K rfl hr.units) (k_cal K c_kinds_of hr (by decide) G.takes_cx (by rfl) (pa_cons pe_str pa_nil)) (pe_lst (pa_cons pe_str (pa_cons pe_str pa_nil))) (nomark _))))) (pss_one (ps_ret pe_bl)) pss_nil)
      (pss_cons (ps_for G.passes_cx rfl (G.k_it K rfl (pe_op (G.k_add K) (pe_slice (G.k_sl K) (pv 0) po_none (po_some pe_int)) (pe_lst (pa_cons pe_int (pa_cons pe_int pa_nil))))) (pg_name (i := 1) nd rfl (Or.inl rfl)) (pss_cons (ps_set (i := 2) nd rfl (Or.inr rfl) (k_cal K c__law_stream hr (by decide) G.takes_cx (by rfl) (pa_cons (pv 1) pa_nil)))
      (pss_cons (ps_setLc (i := 3) (own := [("_law_k", 6)]) rfl nd rfl rfl (sw_true rfl rfl rfl (by decide +kernel)) (pi_range1 (by rfl) T.b_range (pa_cons (pe_op (G.k_add K) pe_int (k_cal K c__law_draw hr (by decide) G.takes_cx (by rfl) (pa_cons (pv 2) (pa_cons pe_int pa_nil)))) pa_nil)) (blkOk_by (N := ["_law_script", "_law_cell_here", "_law_left", "_law_words", "_law_due", "_law_told", "_law_k", "_law_at", "_law_word_here"]) (sc := defScope s_law) (by decide +kernel)) (fun _ _ _ _ _ => (pg_name (i := 6) nd rfl (by first | exact Or.inl rfl | exact Or.inr rfl))) (fun _ _ _ _ _ => pts_nil) (fun _ _ _ _ _ => (k_cal K c__law_word hr (by decide) takes0 (by rfl) (pa_cons (pv 2) pa_nil))))
      (pss_cons (ps_setLc (i := 4) (own := [("_law_at", 7), ("_law_word_here", 8)]) rfl nd rfl rfl (sw_true rfl rfl rfl (by decide +kernel)) (G.k_enum K rfl (by rfl) T.b_enumerate (pa_cons (pv 3) pa_nil)) (blkOk_by (N := ["_law_script", "_law_cell_here", "_law_left", "_law_words", "_law_due", "_law_told", "_law_k", "_law_at", "_law_word_here"]) (sc := defScope s_law) (by decide +kernel)) (fun _ _ _ _ _ => (G.k_tup K rfl rfl (pgs_cons (pg_name (i := 7) nd rfl (by first | exact Or.inl rfl | exact Or.inr rfl)) (pgs_cons (pg_name (i := 8) nd rfl (by first | exact Or.inl rfl | exact Or.inr rfl)) pgs_nil)))) (fun _ _ _ _ _ => pts_nil) (fun _ _ _ _ _ => (k_cal K c__law_kind hr (by decide) takes0 (by rfl) (pa_cons (pv 8) (pa_cons (pv 7) pa_nil)))))
      (pss_cons (ps_set (i := 5) nd rfl (Or.inl rfl) (k_cal K c_kinds_of hr (by decide) G.takes_cx (by rfl) (pa_cons (G.k_join K rfl pe_str (pv 3)) pa_nil)))
      (pss_cons (ps_if (PW.pt (pw_or (pt_not (pt_val (pe_callB (k_isi K) (by rfl) T.b_isinstance bt_isinstance (pa_cons (pv 5) (pa_cons (pe_bltn (v := .ty "list") (by rfl) T.b_list bt_list rfl) pa_nil))))) (pw_or1 (pt_cmpR (G.k_ne K rfl hr.units) (pv 5) (pv 4) (nomark _))))) (pss_one (ps_ret pe_bl)) pss_nil)
      (pss_cons (ps_expr (G.k_bm K rfl PySem.F.plainAttrs_list PySem.F.slot_list_append PySem.F.type_list_append mt_append (pv 5) (pa_cons pe_str pa_nil)))
      (pss_one (ps_if (pt_cmpR (G.k_ne K rfl hr.units) (k_cal K c_kinds_of hr (by decide) G.takes_cx (by rfl) (pa_cons (G.k_join K rfl pe_str (pv 3)) pa_nil)) (pv 4) (nomark _)) (pss_one (ps_ret pe_bl)) pss_nil)))))))))
      (pss_one (ps_ret pe_bl)))),
    (ss_seq (ss_if (st_or (st_test (se_op bs_ne (se_callF (sa_cons se_str sa_nil)) (se_lst (sa_cons se_str sa_nil)))) (st_test (se_op bs_ne (se_callF (sa_cons se_str sa_nil)) (se_lst (sa_cons se_str (sa_cons se_str sa_nil)))))) (ss_ret se_bl) ss_nx)
      (ss_seq (ss_for (si_u (se_op bs_add (se_sl ss_slD se_var so_none (so_some se_int)) (se_lst (sa_cons se_int (sa_cons se_int sa_nil))))) tg_name (ss_seq (ss_asg (se_callA (sa_cons se_var sa_nil)) tg_name)
      (ss_seq (ss_asg (se_lc (si_rng1 (sa_cons (se_op bs_add se_int (se_callB (sa_cons se_var (sa_cons se_int sa_nil)))) sa_nil)) tg_name st_yes (se_callB (sa_cons se_var sa_nil))) tg_name)
      (ss_seq (ss_asg (se_lc (si_enum (sa_cons se_var sa_nil)) (tg_tup (tgs_cons tg_name (tgs_cons tg_name tgs_nil))) st_yes (se_call (sa_cons se_var (sa_cons se_var sa_nil)))) tg_name)
      (ss_seq (ss_asg (se_callA (sa_cons (se_m1 bs_join se_str se_var) sa_nil)) tg_name)
      (ss_seq (ss_if (st_or (st_not (st_b (se_cb (ca_isi T.isa) (sa_cons se_var (sa_cons se_ty sa_nil))))) (st_test (se_op bs_ne se_var se_var))) (ss_ret se_bl) ss_nx)
      (ss_seq (ss_drop (se_app se_var se_str))
      (ss_if (st_test (se_op bs_ne (se_callF (sa_cons (se_m1 bs_join se_str se_var) sa_nil)) se_var)) (ss_ret se_bl) ss_nx))))))))
      (ss_ret se_bl)))⟩)
theorem all_mk {l : PySem.W.OpenLaw} {w : World} {K : PySem.W.Frag} {h : Heap} {mg : Str → Option Value} {fa : Addr} (X : K.In h) (GX : h.Ns mainGlobals mg) (hfa : mg "law" = some (.ref fa))
    {od0 an0 : Option Addr} {sl0 : Array (Option Value)} {oc0 kV0 dc0 pm0 cd0 ct0 : Value} {f0 : Addr}
    {od1 an1 : Option Addr} {sl1 : Array (Option Value)} {oc1 kV1 dc1 pm1 cd1 ct1 : Value} {f1 : Addr}
    {od2 an2 : Option Addr} {sl2 : Array (Option Value)} {oc2 kV2 dc2 pm2 cd2 ct2 : Value} {f2 : Addr}
    {od3 an3 : Option Addr} {sl3 : Array (Option Value)} {oc3 kV3 dc3 pm3 cd3 ct3 : Value} {f3 : Addr}
    {od4 an4 : Option Addr} {sl4 : Array (Option Value)} {oc4 kV4 dc4 pm4 cd4 ct4 : Value} {f4 : Addr}
    {od5 an5 : Option Addr} {sl5 : Array (Option Value)} {oc5 kV5 dc5 pm5 cd5 ct5 : Value} {f5 : Addr}
    {od6 an6 : Option Addr} {sl6 : Array (Option Value)} {oc6 kV6 dc6 pm6 cd6 ct6 : Value} {f6 : Addr}
    {od7 an7 : Option Addr} {sl7 : Array (Option Value)} {oc7 kV7 dc7 pm7 cd7 ct7 : Value} {f7 : Addr}
    {od8 an8 : Option Addr} {sl8 : Array (Option Value)} {oc8 kV8 dc8 pm8 cd8 ct8 : Value} {f8 : Addr}
    {od9 an9 : Option Addr} {sl9 : Array (Option Value)} {oc9 kV9 dc9 pm9 cd9 ct9 : Value} {f9 : Addr}
    {od10 an10 : Option Addr} {sl10 : Array (Option Value)} {oc10 kV10 dc10 pm10 cd10 ct10 : Value} {f10 : Addr}
    {od11 an11 : Option Addr} {sl11 : Array (Option Value)} {oc11 kV11 dc11 pm11 cd11 ct11 : Value} {f11 : Addr}
    {od12 an12 : Option Addr} {sl12 : Array (Option Value)} {oc12 kV12 dc12 pm12 cd12 ct12 : Value} {f12 : Addr}
    {od13 an13 : Option Addr} {sl13 : Array (Option Value)} {oc13 kV13 dc13 pm13 cd13 ct13 : Value} {f13 : Addr}
    {t_FIGURES : Tok}
    {t_GREAT : Tok}
    {t_LONGEST : Tok}
    {ka_MARKS : Addr} {kn_MARKS : Nat} {kt_MARKS0 ku_MARKS0 kt_MARKS1 ku_MARKS1 kt_MARKS2 ku_MARKS2 : Tok}
    {t_OTHERS : Tok}
    {ka_SIDES : Addr} {kod_SIDES : Option Addr} {kn_SIDES : Nat} {ksl_SIDES : Array (Option Value)} {kt_SIDES0 kt_SIDES1 kt_SIDES2 : Tok}
    {t_SMALL : Tok}
    (a0 : PySem.W.nsIn K mainGlobals "is_made_of" = some (some (.ref f0))) (l0 : K.lookup f0 = some ⟨oc0, od0, .func (PySem.W.fnOf "is_made_of" "is_made_of" (defArgs s_is_made_of) (defBody s_is_made_of) (defScope s_is_made_of) .none kV0 dc0 pm0 an0 cd0 ct0), sl0⟩) (c0 : PySem.W.codeIn K cd0 "is_made_of" = true) (k0 : PySem.W.keepIn K (.ref f0) = true)
    (a1 : PySem.W.nsIn K mainGlobals "is_sign" = some (some (.ref f1))) (l1 : K.lookup f1 = some ⟨oc1, od1, .func (PySem.W.fnOf "is_sign" "is_sign" (defArgs s_is_sign) (defBody s_is_sign) (defScope s_is_sign) .none kV1 dc1 pm1 an1 cd1 ct1), sl1⟩) (c1 : PySem.W.codeIn K cd1 "is_sign" = true) (k1 : PySem.W.keepIn K (.ref f1) = true)
    (a2 : PySem.W.nsIn K mainGlobals "is_head" = some (some (.ref f2))) (l2 : K.lookup f2 = some ⟨oc2, od2, .func (PySem.W.fnOf "is_head" "is_head" (defArgs s_is_head) (defBody s_is_head) (defScope s_is_head) .none kV2 dc2 pm2 an2 cd2 ct2), sl2⟩) (c2 : PySem.W.codeIn K cd2 "is_head" = true) (k2 : PySem.W.keepIn K (.ref f2) = true)
    (a3 : PySem.W.nsIn K mainGlobals "kind_of" = some (some (.ref f3))) (l3 : K.lookup f3 = some ⟨oc3, od3, .func (PySem.W.fnOf "kind_of" "kind_of" (defArgs s_kind_of) (defBody s_kind_of) (defScope s_kind_of) .none kV3 dc3 pm3 an3 cd3 ct3), sl3⟩) (c3 : PySem.W.codeIn K cd3 "kind_of" = true) (k3 : PySem.W.keepIn K (.ref f3) = true)
    (a4 : PySem.W.nsIn K mainGlobals "kinds_of" = some (some (.ref f4))) (l4 : K.lookup f4 = some ⟨oc4, od4, .func (PySem.W.fnOf "kinds_of" "kinds_of" (defArgs s_kinds_of) (defBody s_kinds_of) (defScope s_kinds_of) .none kV4 dc4 pm4 an4 cd4 ct4), sl4⟩) (c4 : PySem.W.codeIn K cd4 "kinds_of" = true) (k4 : PySem.W.keepIn K (.ref f4) = true)
    (a5 : PySem.W.nsIn K mainGlobals "_law_cell" = some (some (.ref f5))) (l5 : K.lookup f5 = some ⟨oc5, od5, .func (PySem.W.fnOf "_law_cell" "_law_cell" (defArgs s__law_cell) (defBody s__law_cell) (defScope s__law_cell) .none kV5 dc5 pm5 an5 cd5 ct5), sl5⟩) (c5 : PySem.W.codeIn K cd5 "_law_cell" = true) (k5 : PySem.W.keepIn K (.ref f5) = true)
    (a6 : PySem.W.nsIn K mainGlobals "_law_stir" = some (some (.ref f6))) (l6 : K.lookup f6 = some ⟨oc6, od6, .func (PySem.W.fnOf "_law_stir" "_law_stir" (defArgs s__law_stir) (defBody s__law_stir) (defScope s__law_stir) .none kV6 dc6 pm6 an6 cd6 ct6), sl6⟩) (c6 : PySem.W.codeIn K cd6 "_law_stir" = true) (k6 : PySem.W.keepIn K (.ref f6) = true)
    (a7 : PySem.W.nsIn K mainGlobals "_law_stream" = some (some (.ref f7))) (l7 : K.lookup f7 = some ⟨oc7, od7, .func (PySem.W.fnOf "_law_stream" "_law_stream" (defArgs s__law_stream) (defBody s__law_stream) (defScope s__law_stream) .none kV7 dc7 pm7 an7 cd7 ct7), sl7⟩) (c7 : PySem.W.codeIn K cd7 "_law_stream" = true) (k7 : PySem.W.keepIn K (.ref f7) = true)
    (a8 : PySem.W.nsIn K mainGlobals "_law_draw" = some (some (.ref f8))) (l8 : K.lookup f8 = some ⟨oc8, od8, .func (PySem.W.fnOf "_law_draw" "_law_draw" (defArgs s__law_draw) (defBody s__law_draw) (defScope s__law_draw) .none kV8 dc8 pm8 an8 cd8 ct8), sl8⟩) (c8 : PySem.W.codeIn K cd8 "_law_draw" = true) (k8 : PySem.W.keepIn K (.ref f8) = true)
    (a9 : PySem.W.nsIn K mainGlobals "_law_is_sign" = some (some (.ref f9))) (l9 : K.lookup f9 = some ⟨oc9, od9, .func (PySem.W.fnOf "_law_is_sign" "_law_is_sign" (defArgs s__law_is_sign) (defBody s__law_is_sign) (defScope s__law_is_sign) .none kV9 dc9 pm9 an9 cd9 ct9), sl9⟩) (c9 : PySem.W.codeIn K cd9 "_law_is_sign" = true) (k9 : PySem.W.keepIn K (.ref f9) = true)
    (a10 : PySem.W.nsIn K mainGlobals "_law_is_head" = some (some (.ref f10))) (l10 : K.lookup f10 = some ⟨oc10, od10, .func (PySem.W.fnOf "_law_is_head" "_law_is_head" (defArgs s__law_is_head) (defBody s__law_is_head) (defScope s__law_is_head) .none kV10 dc10 pm10 an10 cd10 ct10), sl10⟩) (c10 : PySem.W.codeIn K cd10 "_law_is_head" = true) (k10 : PySem.W.keepIn K (.ref f10) = true)
    (a11 : PySem.W.nsIn K mainGlobals "_law_word" = some (some (.ref f11))) (l11 : K.lookup f11 = some ⟨oc11, od11, .func (PySem.W.fnOf "_law_word" "_law_word" (defArgs s__law_word) (defBody s__law_word) (defScope s__law_word) .none kV11 dc11 pm11 an11 cd11 ct11), sl11⟩) (c11 : PySem.W.codeIn K cd11 "_law_word" = true) (k11 : PySem.W.keepIn K (.ref f11) = true)
    (a12 : PySem.W.nsIn K mainGlobals "_law_kind" = some (some (.ref f12))) (l12 : K.lookup f12 = some ⟨oc12, od12, .func (PySem.W.fnOf "_law_kind" "_law_kind" (defArgs s__law_kind) (defBody s__law_kind) (defScope s__law_kind) .none kV12 dc12 pm12 an12 cd12 ct12), sl12⟩) (c12 : PySem.W.codeIn K cd12 "_law_kind" = true) (k12 : PySem.W.keepIn K (.ref f12) = true)
    (a13 : PySem.W.nsIn K mainGlobals "law" = some (some (.ref f13))) (l13 : K.lookup f13 = some ⟨oc13, od13, .func (PySem.W.fnOf "law" "law" (defArgs s_law) (defBody s_law) (defScope s_law) .none kV13 dc13 pm13 an13 cd13 ct13), sl13⟩) (c13 : PySem.W.codeIn K cd13 "law" = true) (k13 : PySem.W.keepIn K (.ref f13) = true)
    (zb_all : PySem.W.nsIn K mainGlobals "all" = some none)
    (zb_enumerate : PySem.W.nsIn K mainGlobals "enumerate" = some none)
    (zb_isinstance : PySem.W.nsIn K mainGlobals "isinstance" = some none)
    (zb_len : PySem.W.nsIn K mainGlobals "len" = some none)
    (zb_list : PySem.W.nsIn K mainGlobals "list" = some none)
    (zb_range : PySem.W.nsIn K mainGlobals "range" = some none)
    (zb_str : PySem.W.nsIn K mainGlobals "str" = some none)
    (zc_FIGURES : PySem.W.nsIn K mainGlobals "FIGURES" = some (some (.str (Str.ofString "0123456789") t_FIGURES)))
    (zc_GREAT : PySem.W.nsIn K mainGlobals "GREAT" = some (some (.str (Str.ofString "ABCDEFGHIJKLMNOPQRSTUVWXYZ") t_GREAT)))
    (zc_LONGEST : PySem.W.nsIn K mainGlobals "LONGEST" = some (some (.int 6 t_LONGEST)))
    (zc_MARKS : PySem.W.nsIn K mainGlobals "MARKS" = some (some (.ref ka_MARKS))) (zk_MARKS : K.lookup ka_MARKS = some ⟨.type "dict", none, .dict #[⟨PyData.keyHash w.params (Str.ofString ":"), .str (Str.ofString ":") kt_MARKS0, .str (Str.ofString "is") ku_MARKS0⟩, ⟨PyData.keyHash w.params (Str.ofString "|"), .str (Str.ofString "|") kt_MARKS1, .str (Str.ofString "or") ku_MARKS1⟩, ⟨PyData.keyHash w.params (Str.ofString "~"), .str (Str.ofString "~") kt_MARKS2, .str (Str.ofString "empty") ku_MARKS2⟩] kn_MARKS, #[]⟩) (zl_MARKS : (ka_MARKS == sysModules) = false)
    (zc_OTHERS : PySem.W.nsIn K mainGlobals "OTHERS" = some (some (.str (Str.ofString "+-*/()[]=<>,;.!?^&") t_OTHERS)))
    (zc_SIDES : PySem.W.nsIn K mainGlobals "SIDES" = some (some (.ref ka_SIDES))) (zk_SIDES : K.lookup ka_SIDES = some ⟨.type "tuple", kod_SIDES, .seq #[.str (Str.ofString "left") kt_SIDES0, .str (Str.ofString "right") kt_SIDES1, .str (Str.ofString "none") kt_SIDES2] kn_SIDES, ksl_SIDES⟩)
    (zc_SMALL : PySem.W.nsIn K mainGlobals "SMALL" = some (some (.str (Str.ofString "abcdefghijklmnopqrstuvwxyz") t_SMALL))) :
    ∃ fd : FuncData, (∀ (s : Shared) (v : Value), BindsTo s fd ⟨[v], []⟩ [("_law_script", v)]) ∧ ∀ base : Heap, K.In base → base.Ns mainGlobals mg → FnOk l.prog w K mg base (L2.CX l.prog w) 5 fa fd ["_law_script"] (G.spLaw K) := by
  have e := hfa.symm.trans (PySem.W.mg_of X GX a13)
  cases e
  have T : Txt K w [ka_MARKS, ka_SIDES] mg := ⟨(fun _ _ _ h => nomatch h), PySem.W.mg_none_of X GX zb_all, PySem.W.mg_none_of X GX zb_enumerate, PySem.W.mg_none_of X GX zb_isinstance, PySem.W.mg_none_of X GX zb_len, PySem.W.mg_none_of X GX zb_list, PySem.W.mg_none_of X GX zb_range, PySem.W.mg_none_of X GX zb_str, ⟨_, PySem.W.mg_of X GX zc_FIGURES, ⟨_, rfl⟩⟩, ⟨_, PySem.W.mg_of X GX zc_GREAT, ⟨_, rfl⟩⟩, ⟨_, PySem.W.mg_of X GX zc_LONGEST, ⟨_, rfl⟩⟩, PySem.W.mg_of X GX zc_MARKS, ⟨⟨_, _, zk_MARKS, .cons ⟨⟨_, rfl, rfl⟩, _, rfl⟩ (.cons ⟨⟨_, rfl, rfl⟩, _, rfl⟩ (.cons ⟨⟨_, rfl, rfl⟩, _, rfl⟩ (.nil)))⟩, zl_MARKS⟩, ⟨_, PySem.W.mg_of X GX zc_OTHERS, ⟨_, rfl⟩⟩, ⟨_, PySem.W.mg_of X GX zc_SIDES, rfl⟩, kt_strs zk_SIDES (Nat.le_of_ble_eq_true rfl) (.cons ⟨_, rfl⟩ (.cons ⟨_, rfl⟩ (.cons ⟨_, rfl⟩ (.nil)))), ⟨_, PySem.W.mg_of X GX zc_SMALL, ⟨_, rfl⟩⟩⟩
  have F0 := fun_mk (st := s_is_made_of) l0 c0 k0
  have D0 : G.DefAt K mg "is_made_of" "is_made_of" s_is_made_of ["text", "some"] := ⟨_, _, F0, PySem.W.mg_of X GX a0, F0.binds (ps := ["text", "some"]) fun _ _ _ _ _ _ us hl => match us, hl with | [_, _], _ => rfl⟩
  have F1 := fun_mk (st := s_is_sign) l1 c1 k1
  have D1 : G.DefAt K mg "is_sign" "is_sign" s_is_sign ["thing"] := ⟨_, _, F1, PySem.W.mg_of X GX a1, F1.binds (ps := ["thing"]) fun _ _ _ _ _ _ us hl => match us, hl with | [_], _ => rfl⟩
  have F2 := fun_mk (st := s_is_head) l2 c2 k2
  have D2 : G.DefAt K mg "is_head" "is_head" s_is_head ["thing"] := ⟨_, _, F2, PySem.W.mg_of X GX a2, F2.binds (ps := ["thing"]) fun _ _ _ _ _ _ us hl => match us, hl with | [_], _ => rfl⟩
  have F3 := fun_mk (st := s_kind_of) l3 c3 k3
  have D3 : G.DefAt K mg "kind_of" "kind_of" s_kind_of ["word", "at"] := ⟨_, _, F3, PySem.W.mg_of X GX a3, F3.binds (ps := ["word", "at"]) fun _ _ _ _ _ _ us hl => match us, hl with | [_, _], _ => rfl⟩
  have F4 := fun_mk (st := s_kinds_of) l4 c4 k4
  have D4 : G.DefAt K mg "kinds_of" "kinds_of" s_kinds_of ["row"] := ⟨_, _, F4, PySem.W.mg_of X GX a4, F4.binds (ps := ["row"]) fun _ _ _ _ _ _ us hl => match us, hl with | [_], _ => rfl⟩
  have F5 := fun_mk (st := s__law_cell) l5 c5 k5
  have D5 : G.DefAt K mg "_law_cell" "_law_cell" s__law_cell ["_law_script", "_law_k"] := ⟨_, _, F5, PySem.W.mg_of X GX a5, F5.binds (ps := ["_law_script", "_law_k"]) fun _ _ _ _ _ _ us hl => match us, hl with | [_, _], _ => rfl⟩
  have F6 := fun_mk (st := s__law_stir) l6 c6 k6
  have D6 : G.DefAt K mg "_law_stir" "_law_stir" s__law_stir ["_law_cell_here", "_law_k"] := ⟨_, _, F6, PySem.W.mg_of X GX a6, F6.binds (ps := ["_law_cell_here", "_law_k"]) fun _ _ _ _ _ _ us hl => match us, hl with | [_, _], _ => rfl⟩
  have F7 := fun_mk (st := s__law_stream) l7 c7 k7
  have D7 : G.DefAt K mg "_law_stream" "_law_stream" s__law_stream ["_law_cell_here"] := ⟨_, _, F7, PySem.W.mg_of X GX a7, F7.binds (ps := ["_law_cell_here"]) fun _ _ _ _ _ _ us hl => match us, hl with | [_], _ => rfl⟩
  have F8 := fun_mk (st := s__law_draw) l8 c8 k8
  have D8 : G.DefAt K mg "_law_draw" "_law_draw" s__law_draw ["_law_left", "_law_many"] := ⟨_, _, F8, PySem.W.mg_of X GX a8, F8.binds (ps := ["_law_left", "_law_many"]) fun _ _ _ _ _ _ us hl => match us, hl with | [_, _], _ => rfl⟩
  have F9 := fun_mk (st := s__law_is_sign) l9 c9 k9
  have D9 : G.DefAt K mg "_law_is_sign" "_law_is_sign" s__law_is_sign ["_law_word_here"] := ⟨_, _, F9, PySem.W.mg_of X GX a9, F9.binds (ps := ["_law_word_here"]) fun _ _ _ _ _ _ us hl => match us, hl with | [_], _ => rfl⟩
  have F10 := fun_mk (st := s__law_is_head) l10 c10 k10
  have D10 : G.DefAt K mg "_law_is_head" "_law_is_head" s__law_is_head ["_law_word_here"] := ⟨_, _, F10, PySem.W.mg_of X GX a10, F10.binds (ps := ["_law_word_here"]) fun _ _ _ _ _ _ us hl => match us, hl with | [_], _ => rfl⟩
  have F11 := fun_mk (st := s__law_word) l11 c11 k11
  have D11 : G.DefAt K mg "_law_word" "_law_word" s__law_word ["_law_left"] := ⟨_, _, F11, PySem.W.mg_of X GX a11, F11.binds (ps := ["_law_left"]) fun _ _ _ _ _ _ us hl => match us, hl with | [_], _ => rfl⟩
  have F12 := fun_mk (st := s__law_kind) l12 c12 k12
  have D12 : G.DefAt K mg "_law_kind" "_law_kind" s__law_kind ["_law_word_here", "_law_at"] := ⟨_, _, F12, PySem.W.mg_of X GX a12, F12.binds (ps := ["_law_word_here", "_law_at"]) fun _ _ _ _ _ _ us hl => match us, hl with | [_, _], _ => rfl⟩
  have F13 := fun_mk (st := s_law) l13 c13 k13
  have D13 : G.DefAt K mg "law" "law" s_law ["_law_script"] := ⟨_, _, F13, PySem.W.mg_of X GX a13, F13.binds (ps := ["_law_script"]) fun _ _ _ _ _ _ us hl => match us, hl with | [_], _ => rfl⟩
  refine ⟨PySem.W.fnOf "law" "law" (defArgs s_law) (defBody s_law) (defScope s_law) .none kV13 dc13 pm13 an13 cd13 ct13, fun s v => .of_eq rfl, fun base _ _ => ?_⟩
  have C_is_made_of := ok_is_made_of (P := l.prog) (w := w) (base := base) T D0
  have C__law_cell := ok__law_cell (P := l.prog) (w := w) (base := base) T D5
  have C__law_stir := ok__law_stir (P := l.prog) (w := w) (base := base) T D6
  have C__law_stream := ok__law_stream (P := l.prog) (w := w) (base := base) T D7
  have C__law_is_sign := ok__law_is_sign (P := l.prog) (w := w) (base := base) T D9
  have C__law_is_head := ok__law_is_head (P := l.prog) (w := w) (base := base) T D10
  have C_is_sign := ok_is_sign (P := l.prog) (w := w) (base := base) T D1 C_is_made_of
  have C_is_head := ok_is_head (P := l.prog) (w := w) (base := base) T D2 C_is_made_of
  have C__law_draw := ok__law_draw (P := l.prog) (w := w) (base := base) T D8 C__law_stir
  have C__law_kind := ok__law_kind (P := l.prog) (w := w) (base := base) T D12 C__law_is_head C__law_is_sign
  have C_kind_of := ok_kind_of (P := l.prog) (w := w) (base := base) T D3 C_is_head C_is_sign
  have C__law_word := ok__law_word (P := l.prog) (w := w) (base := base) T D11 C__law_draw
  have C_kinds_of := ok_kinds_of (P := l.prog) (w := w) (base := base) T D4 C_kind_of
  have C_law := ok_law (P := l.prog) (w := w) (base := base) T D13 C__law_stream C_kinds_of C__law_word C__law_kind C__law_draw
  exact law_fn C_law F13 hfa law_true
end S
open PySem PySem.W PyProof.Rows
set_option maxRecDepth 100000 in
set_option maxHeartbeats 0 in
theorem PySem.Challenge.cw_rulestable_k67_kinds_of_words_holds : PySem.Challenge.rw_rulestable_k67_kinds_of_words.Holds := by
  w_on; o_law; k_head; (case hw => w_witness2)
  k_fill
  refine L2.walk_of (l := PySem.Challenge.rw_rulestable_k67_kinds_of_words) (n := 63) (k := 5) (x := "_law_script") (CX := fun w => L2.CX PySem.Challenge.rw_rulestable_k67_kinds_of_words.prog w) (sp := fun w => G.spLaw _) rfl (by decide) rfl ⟨rfl, by decide, by decide⟩ (fun w h Y => PySem.W.kIn_of Y) ?F (fun _ _ a ns hl _ hS => ⟨a, ns, rfl, hS, hl, fun _ => rfl⟩) (fun _ _ _ _ _ h => S.cx_no h)
  case F =>
    intro w mg fa h KX GG hmg
    refine' S.all_mk KX GG hmg ?a0 ?l0 ?c0 ?k0 ?a1 ?l1 ?c1 ?k1 ?a2 ?l2 ?c2 ?k2 ?a3 ?l3 ?c3 ?k3 ?a4 ?l4 ?c4 ?k4 ?a5 ?l5 ?c5 ?k5 ?a6 ?l6 ?c6 ?k6 ?a7 ?l7 ?c7 ?k7 ?a8 ?l8 ?c8 ?k8 ?a9 ?l9 ?c9 ?k9 ?a10 ?l10 ?c10 ?k10 ?a11 ?l11 ?c11 ?k11 ?a12 ?l12 ?c12 ?k12 ?a13 ?l13 ?c13 ?k13 ?zb_all ?zb_enumerate ?zb_isinstance ?zb_len ?zb_list ?zb_range ?zb_str ?zc_FIGURES ?zc_GREAT ?zc_LONGEST ?zc_MARKS ?zk_MARKS ?zl_MARKS ?zc_OTHERS ?zc_SIDES ?zk_SIDES ?zc_SMALL
    (case a0 => k_is); (case l0 => k_is); (case c0 => k_is); (case k0 => k_is); (case a1 => k_is); (case l1 => k_is); (case c1 => k_is); (case k1 => k_is); (case a2 => k_is); (case l2 => k_is); (case c2 => k_is); (case k2 => k_is); (case a3 => k_is); (case l3 => k_is); (case c3 => k_is); (case k3 => k_is); (case a4 => k_is); (case l4 => k_is); (case c4 => k_is); (case k4 => k_is); (case a5 => k_is); (case l5 => k_is); (case c5 => k_is); (case k5 => k_is); (case a6 => k_is); (case l6 => k_is); (case c6 => k_is); (case k6 => k_is); (case a7 => k_is); (case l7 => k_is); (case c7 => k_is); (case k7 => k_is); (case a8 => k_is); (case l8 => k_is); (case c8 => k_is); (case k8 => k_is); (case a9 => k_is); (case l9 => k_is); (case c9 => k_is); (case k9 => k_is); (case a10 => k_is); (case l10 => k_is); (case c10 => k_is); (case k10 => k_is); (case a11 => k_is); (case l11 => k_is); (case c11 => k_is); (case k11 => k_is); (case a12 => k_is); (case l12 => k_is); (case c12 => k_is); (case k12 => k_is); (case a13 => k_is); (case l13 => k_is); (case c13 => k_is); (case k13 => k_is); (case zb_all => k_is); (case zb_enumerate => k_is); (case zb_isinstance => k_is); (case zb_len => k_is); (case zb_list => k_is); (case zb_range => k_is); (case zb_str => k_is); (case zc_FIGURES => k_is); (case zc_GREAT => k_is); (case zc_LONGEST => k_is); (case zc_MARKS => k_is); (case zk_MARKS => k_is); (case zl_MARKS => kernel_rfl); (case zc_OTHERS => k_is); (case zc_SIDES => k_is); (case zk_SIDES => k_is); (case zc_SMALL => k_is)
#print axioms PySem.Challenge.cw_rulestable_k67_kinds_of_words_holds

