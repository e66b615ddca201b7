import PyProof.Rows.All
import Wide.All
import OpenK.AllK
import Wide.FinOn
import HandS.ForMost
import HandS.Exc
import HandS.ExcOwn
import HandS.TryOnly
import HandS.TryMany
import HandS.ExcCtx
import HandS.Hot
import HandS.HotCalls
import HandS.IsInst
import HandS.ExcIs
import HandS.More
import HandS.Conv
import HandS.Small
import HandS.Walk
import PySem.Challenge.RW_inkloom_k39_letters_refused
import HandS.Ends
set_option Elab.async false
set_option linter.all false
set_option maxRecDepth 100000
set_option maxHeartbeats 8000000
/-! Ink0 -/
/-! The D-layer: data over the abstract heap, the wp of a piece of syntax, what evaluates to what. -/
namespace Ink
open PySem PySem.Spec PyProof.Rows L2

/-! ### data -/
inductive D where
  | non | bl (b : Bool) | int (i : Int) | str (x : Str) | tup (l : List D) | lst (l : List D) | dct | ref (a : Addr) | ty (n : String)

mutual
def Dat (S : Addr → Prop) (H : Hp) : V → D → Prop
  | v, .non => v = .non
  | v, .bl b => v = .bl b
  | v, .int i => v = .int i
  | v, .str x => v = .str x
  | v, .tup l => ∃ a vs, v = .ref a ∧ ¬ S a ∧ H a = some (.tup vs) ∧ DatL S H vs l
  | v, .lst l => ∃ a vs, v = .ref a ∧ ¬ S a ∧ H a = some (.lst vs) ∧ DatL S H vs l
  | v, .dct => ∃ a, v = .ref a ∧ ¬ S a ∧ H a = some (.dK [])
  | v, .ref a => v = .ref a
  | v, .ty n => v = .ty n
def DatL (S : Addr → Prop) (H : Hp) : List V → List D → Prop
  | vs, [] => vs = []
  | vs, d :: ds => ∃ v r, vs = v :: r ∧ Dat S H v d ∧ DatL S H r ds
end

/-- what stands off S stands, what was there is there -/
def Kept (S : Addr → Prop) (H H' : Hp) : Prop := (∀ b o, H b = some o → ¬ S b → H' b = some o) ∧ ∀ b, H' b = none → H b = none
theorem Kept.refl {S : Addr → Prop} (H : Hp) : Kept S H H := ⟨fun _ _ h _ => h, fun _ h => h⟩
theorem Kept.trans {S : Addr → Prop} {H H1 H2 : Hp} (a : Kept S H H1) (b : Kept S H1 H2) : Kept S H H2 := ⟨fun c o h n => b.1 c o (a.1 c o h n) n, fun c h => a.2 c (b.2 c h)⟩
theorem Same.kept {S : Addr → Prop} {H H' : Hp} (e : Same H H') : Kept S H H' := ⟨fun b o h _ => e b o h, fun b h => e.free h⟩
theorem Same.new {H : Hp} {p : Addr} {o : HO} (h : H p = none) : Same H (upd H p o) := fun a u e => by
  rw [upd_ne (ne_of_none e h)]
  exact e
theorem Kept.weak {S S' : Addr → Prop} {H H' : Hp} (k : Kept S H H') (h : ∀ a, S a → S' a) : Kept S' H H' := ⟨fun b o e n => k.1 b o e fun z => n (h b z), k.2⟩
mutual
theorem Dat.mono {S : Addr → Prop} {H H' : Hp} (k : ∀ b o, H b = some o → ¬ S b → H' b = some o) : ∀ (d : D) (v : V), Dat S H v d → Dat S H' v d
  | .non, _, h => h
  | .bl _, _, h => h
  | .int _, _, h => h
  | .str _, _, h => h
  | .ref _, _, h => h
  | .ty _, _, h => h
  | .dct, _, h => by
    obtain ⟨a, e, n, q⟩ := h
    exact ⟨a, e, n, k _ _ q n⟩
  | .tup l, _, h => by
    obtain ⟨a, vs, e, n, q, r⟩ := h
    exact ⟨a, vs, e, n, k _ _ q n, DatL.mono k l vs r⟩
  | .lst l, _, h => by
    obtain ⟨a, vs, e, n, q, r⟩ := h
    exact ⟨a, vs, e, n, k _ _ q n, DatL.mono k l vs r⟩
theorem DatL.mono {S : Addr → Prop} {H H' : Hp} (k : ∀ b o, H b = some o → ¬ S b → H' b = some o) : ∀ (l : List D) (vs : List V), DatL S H vs l → DatL S H' vs l
  | [], _, h => h
  | d :: ds, _, h => by
    obtain ⟨v, r, e, p, q⟩ := h
    exact ⟨v, r, e, Dat.mono k d v p, DatL.mono k ds r q⟩
end
mutual
/-- another set of addresses: none of the data's own comes in -/
theorem Dat.off {S S' : Addr → Prop} {H : Hp} (k : ∀ b, H b ≠ none → S' b → S b) : ∀ (d : D) (v : V), Dat S H v d → Dat S' H v d
  | .non, _, h => h
  | .bl _, _, h => h
  | .int _, _, h => h
  | .str _, _, h => h
  | .ref _, _, h => h
  | .ty _, _, h => h
  | .dct, _, h => by
    obtain ⟨a, e, n, q⟩ := h
    exact ⟨a, e, fun z => n (k a (by rw [q]; exact fun w => nomatch w) z), q⟩
  | .tup l, _, h => by
    obtain ⟨a, vs, e, n, q, r⟩ := h
    exact ⟨a, vs, e, fun z => n (k a (by rw [q]; exact fun w => nomatch w) z), q, DatL.off k l vs r⟩
  | .lst l, _, h => by
    obtain ⟨a, vs, e, n, q, r⟩ := h
    exact ⟨a, vs, e, fun z => n (k a (by rw [q]; exact fun w => nomatch w) z), q, DatL.off k l vs r⟩
theorem DatL.off {S S' : Addr → Prop} {H : Hp} (k : ∀ b, H b ≠ none → S' b → S b) : ∀ (l : List D) (vs : List V), DatL S H vs l → DatL S' H vs l
  | [], _, h => h
  | d :: ds, _, h => by
    obtain ⟨v, r, e, p, q⟩ := h
    exact ⟨v, r, e, Dat.off k d v p, DatL.off k ds r q⟩
end
theorem Dat.kept {S : Addr → Prop} {H H' : Hp} {v : V} {d : D} (h : Dat S H v d) (k : Kept S H H') : Dat S H' v d := Dat.mono k.1 d v h
theorem DatL.kept {S : Addr → Prop} {H H' : Hp} {vs : List V} {ds : List D} (h : DatL S H vs ds) (k : Kept S H H') : DatL S H' vs ds := DatL.mono k.1 ds vs h
theorem DatL.len {S : Addr → Prop} {H : Hp} : ∀ {ds : List D} {vs : List V}, DatL S H vs ds → vs.length = ds.length
  | [], _, h => by
    cases (show _ = [] from h)
    rfl
  | d :: ds, _, h => by
    obtain ⟨v, r, e, p, q⟩ := h
    subst e
    show r.length + 1 = ds.length + 1
    rw [DatL.len q]
theorem DatL.get {S : Addr → Prop} {H : Hp} : ∀ {ds : List D} {vs : List V} {i : Nat} {d : D}, DatL S H vs ds → ds[i]? = some d → ∃ v, vs[i]? = some v ∧ Dat S H v d
  | [], _, _, _, _, e => by simp at e
  | d :: ds, _, 0, _, h, e => by
    obtain ⟨v, r, q, p, _⟩ := h
    subst q
    have e' : d = _ := Option.some.inj e
    subst e'
    exact ⟨v, rfl, p⟩
  | d :: ds, _, i + 1, _, h, e => by
    obtain ⟨v, r, q, _, p⟩ := h
    subst q
    exact DatL.get (i := i) p e
theorem DatL.getV {S : Addr → Prop} {H : Hp} : ∀ {ds : List D} {vs : List V} {i : Nat} {v : V}, DatL S H vs ds → vs[i]? = some v → ∃ d, ds[i]? = some d ∧ Dat S H v d
  | [], _, _, _, h, e => by
    cases (show _ = [] from h)
    simp at e
  | d :: ds, _, 0, _, h, e => by
    obtain ⟨v, r, q, p, _⟩ := h
    subst q
    have e' : v = _ := Option.some.inj e
    subst e'
    exact ⟨d, rfl, p⟩
  | d :: ds, _, i + 1, _, h, e => by
    obtain ⟨v, r, q, _, p⟩ := h
    subst q
    exact DatL.getV (i := i) p e
theorem DatL.append {S : Addr → Prop} {H : Hp} : ∀ {ds es : List D} {vs ws : List V}, DatL S H vs ds → DatL S H ws es → DatL S H (vs ++ ws) (ds ++ es)
  | [], _, _, _, h, k => by
    cases (show _ = [] from h)
    exact k
  | d :: ds, es, _, ws, h, k => by
    obtain ⟨v, r, e, p, q⟩ := h
    subst e
    exact ⟨v, r ++ ws, rfl, p, DatL.append q k⟩
theorem DatL.take {S : Addr → Prop} {H : Hp} : ∀ {ds : List D} {vs : List V} (n : Nat), DatL S H vs ds → DatL S H (vs.take n) (ds.take n)
  | _, _, 0, _ => rfl
  | [], _, n + 1, h => by
    cases (show _ = [] from h)
    rfl
  | d :: ds, _, n + 1, h => by
    obtain ⟨v, r, e, p, q⟩ := h
    subst e
    exact ⟨v, r.take n, rfl, p, DatL.take n q⟩
theorem DatL.drop {S : Addr → Prop} {H : Hp} : ∀ {ds : List D} {vs : List V} (n : Nat), DatL S H vs ds → DatL S H (vs.drop n) (ds.drop n)
  | _, _, 0, h => h
  | [], _, n + 1, h => by
    cases (show _ = [] from h)
    rfl
  | d :: ds, _, n + 1, h => by
    obtain ⟨v, r, e, p, q⟩ := h
    subst e
    exact DatL.drop n q
theorem DatL.one {S : Addr → Prop} {H : Hp} {v : V} {d : D} (h : Dat S H v d) : DatL S H [v] [d] := ⟨v, [], rfl, h, rfl⟩
theorem DatL.cons {S : Addr → Prop} {H : Hp} {v : V} {d : D} {vs : List V} {ds : List D} (h : Dat S H v d) (k : DatL S H vs ds) : DatL S H (v :: vs) (d :: ds) := ⟨v, vs, rfl, h, k⟩
theorem DatL.set {S : Addr → Prop} {H : Hp} {v : V} {d : D} (p : Dat S H v d) : ∀ {ds : List D} {vs : List V} (i : Nat), DatL S H vs ds → DatL S H (vs.set i v) (ds.set i d)
  | [], _, i, h => by
    cases (show _ = [] from h)
    exact rfl
  | c :: ds, _, 0, h => by
    obtain ⟨w, r, e, _, q⟩ := h
    subst e
    exact ⟨v, r, rfl, p, q⟩
  | c :: ds, _, i + 1, h => by
    obtain ⟨w, r, e, z, q⟩ := h
    subst e
    exact ⟨w, r.set i v, rfl, z, DatL.set p i q⟩

/-! ### slots -/
abbrev Gm := List (Option D)
def Ty (S : Addr → Prop) (H : Hp) (σ : L2.St) (G : Gm) : Prop := σ.length = G.length ∧ ∀ (i : Nat) (d : D), G[i]? = some (some d) → ∃ v, σ[i]? = some (some v) ∧ Dat S H v d
def SOk (S : Addr → Prop) (H : Hp) : Prop := ∀ b, S b → H b ≠ none
theorem SOk.kept {S : Addr → Prop} {H H' : Hp} (h : SOk S H) (k : Kept S H H') : SOk S H' := fun b q e => h b q (k.2 b e)
theorem SOk.new {S : Addr → Prop} {H : Hp} {p : Addr} (h : SOk S H) (e : H p = none) : ¬ S p := fun z => h p z e
theorem Ty.kept {S : Addr → Prop} {H H' : Hp} {σ : L2.St} {G : Gm} (h : Ty S H σ G) (k : Kept S H H') : Ty S H' σ G := ⟨h.1, fun i d e => by
  obtain ⟨v, q, p⟩ := h.2 i d e
  exact ⟨v, q, p.kept k⟩⟩
theorem Ty.off {S S' : Addr → Prop} {H : Hp} {σ : L2.St} {G : Gm} (h : Ty S H σ G) (k : ∀ b, H b ≠ none → S' b → S b) : Ty S' H σ G := ⟨h.1, fun i d e => by
  obtain ⟨v, q, p⟩ := h.2 i d e
  exact ⟨v, q, Dat.off k d v p⟩⟩
theorem Ty.set {S : Addr → Prop} {H : Hp} {σ : L2.St} {G : Gm} {v : V} {d : D} (h : Ty S H σ G) (i : Nat) (p : Dat S H v d) : Ty S H (σ.set i (some v)) (G.set i (some d)) := by
  refine ⟨by rw [List.length_set, List.length_set]; exact h.1, fun j c e => ?_⟩
  by_cases q : i = j
  · subst q
    rw [List.getElem?_set] at e
    rw [if_pos rfl] at e
    by_cases l : i < G.length
    · rw [if_pos l] at e
      have e2 : d = c := Option.some.inj (Option.some.inj e)
      subst e2
      exact ⟨v, by rw [List.getElem?_set_self (by rw [h.1]; exact l)], p⟩
    · rw [if_neg l] at e
      cases e
  · rw [List.getElem?_set_ne q] at e
    obtain ⟨w, e2, z⟩ := h.2 j c e
    exact ⟨w, by rw [List.getElem?_set_ne q]; exact e2, z⟩
/-- a slot that is forgotten -/
theorem Ty.drop {S : Addr → Prop} {H : Hp} {σ : L2.St} {G G' : Gm} (h : Ty S H σ G) (hl : G'.length = G.length) (k : ∀ (i : Nat) (d : D), G'[i]? = some (some d) → G[i]? = some (some d)) : Ty S H σ G' := ⟨h.1.trans hl.symm, fun i d e => h.2 i d (k i d e)⟩
theorem Ty.forget {S : Addr → Prop} {H : Hp} {σ : L2.St} {G : Gm} (h : Ty S H σ G) (i : Nat) : Ty S H σ (G.set i none) := h.drop (by rw [List.length_set]) fun j d e => by
  by_cases q : i = j
  · subst q
    rw [List.getElem?_set, if_pos rfl] at e
    split at e
    · cases e
    · cases e
  · rw [List.getElem?_set_ne q] at e
    exact e
theorem ty_start {S : Addr → Prop} {H : Hp} {N : List Str} {vs : List V} {ds : List D} (h : DatL S H vs ds) (hl : ds.length ≤ N.length) : Ty S H (L2.start N vs) (ds.map some ++ List.replicate (N.length - ds.length) none) := by
  have e := h.len
  refine ⟨?_, fun i d q => ?_⟩
  · unfold L2.start
    rw [List.length_append, List.length_append, List.length_map, List.length_map, List.length_replicate, List.length_replicate, e]
  · by_cases l : i < ds.length
    · rw [List.getElem?_append_left (by rw [List.length_map]; exact l), List.getElem?_map] at q
      cases c : ds[i]? with
      | none =>
        rw [c] at q
        cases q
      | some d' =>
        rw [c] at q
        have e2 : d' = d := Option.some.inj (Option.some.inj q)
        subst e2
        obtain ⟨v, a, b⟩ := h.get c
        refine ⟨v, ?_, b⟩
        unfold L2.start
        rw [List.getElem?_append_left (by rw [List.length_map, e]; exact l), List.getElem?_map, a]
        rfl
    · rw [List.getElem?_append_right (by rw [List.length_map]; omega), List.getElem?_replicate] at q
      split at q
      · cases q
      · cases q

/-! ### the wp of a piece of syntax -/
section
variable {X : Cx}
def WE (X : Cx) (e : Expr) : TE := fun σ H Q => ∃ t, PE X e t ∧ t σ H Q
def WT (X : Cx) (e : Expr) : TT := fun σ H Q => ∃ t, PT X e t ∧ t σ H Q
def WW (X : Cx) (e : Expr) : TT := fun σ H Q => ∃ t, PW X e t ∧ t σ H Q
def WA (X : Cx) (es : List Expr) : TA := fun σ H Q => ∃ t, PA X es t ∧ t σ H Q
def WS (X : Cx) (st : Stmt) : TS := fun D σ H => ∃ t, PS X st t ∧ t D σ H
def WB (X : Cx) (st : List Stmt) : TS := fun D σ H => ∃ t, PSs X st t ∧ t D σ H
theorem we_pe {e : Expr} : PE X e (WE X e) := ⟨fun pins s σ H Q I ⟨_, h, q⟩ => h.run pins s σ H Q I q⟩
theorem wt_pt {e : Expr} : PT X e (WT X e) := ⟨fun pins s σ H Q I ⟨_, h, q⟩ => h.run pins s σ H Q I q⟩
theorem ww_pw {e : Expr} : PW X e (WW X e) := ⟨fun wh pins s σ H Q I ⟨_, h, q⟩ => h.run wh pins s σ H Q I q⟩
theorem wa_pa {es : List Expr} : PA X es (WA X es) := ⟨fun pos pins s σ H Q I ⟨_, h, q⟩ => h.run pos pins s σ H Q I q⟩
theorem ws_ps {st : Stmt} : PS X st (WS X st) := ⟨fun pins s σ H D I ⟨_, h, q⟩ => h.run pins s σ H D I q⟩
theorem wb_pss {st : List Stmt} : PSs X st (WB X st) := ⟨fun pins s σ H D I ⟨_, h, q⟩ => h.run pins s σ H D I q⟩
end

/-! ### what evaluates to what -/
abbrev As := Hp → Prop
/-- an assertion that new objects leave -/
def Stb (W : As) : Prop := ∀ H H', W H → Same H H' → W H'
def Ev (X : Cx) (S : Addr → Prop) (e : Expr) (G : Gm) (W : As) (d : D) (W' : As) : Prop :=
  ∀ σ H, Ty S H σ G → SOk S H → W H → ∀ Q : VK, (∀ v H', Kept S H H' → W' H' → Dat S H' v d → Q v H') → WE X e σ H Q
def EvA (X : Cx) (S : Addr → Prop) (es : List Expr) (G : Gm) (W : As) (ds : List D) (W' : As) : Prop :=
  ∀ σ H, Ty S H σ G → SOk S H → W H → ∀ Q : List V → Hp → Prop, (∀ vs H', Kept S H H' → W' H' → DatL S H' vs ds → Q vs H') → WA X es σ H Q
def EvT (X : Cx) (S : Addr → Prop) (e : Expr) (G : Gm) (W : As) (b : Bool) (W' : As) : Prop :=
  ∀ σ H, Ty S H σ G → SOk S H → W H → ∀ Q : Bool → Hp → Prop, (∀ H', Kept S H H' → W' H' → Q b H') → WT X e σ H Q
def EvW (X : Cx) (S : Addr → Prop) (e : Expr) (G : Gm) (W : As) (b : Bool) (W' : As) : Prop :=
  ∀ σ H, Ty S H σ G → SOk S H → W H → ∀ Q : Bool → Hp → Prop, (∀ H', Kept S H H' → W' H' → Q b H') → WW X e σ H Q
/-- what is raised reaches Ex -/
def Tk (X : Cx) (Ex : Addr → Hp → Prop) : Prop := ∃ Wx : WX, L2N.Takes X Wx ∧ ∀ c σ H, σ.length = X.N.length → Ex c H → Wx (.ref c) none σ H
def EvX (X : Cx) (S : Addr → Prop) (e : Expr) (G : Gm) (W : As) (c : Addr) (W' : As) : Prop :=
  ∀ σ H, Ty S H σ G → SOk S H → W H → ∀ Ex, Tk X Ex → (∀ H', Kept S H H' → W' H' → Ex c H') → ∀ Q : VK, WE X e σ H Q

section
variable {X : Cx} {S : Addr → Prop} {G : Gm} {W W1 W2 W3 W' : As} {pos : Pos} {a b e : Expr} {es : List Expr} {d da db : D} {ds : List D}
theorem ev_name (i : Nat) {x : Str} (hN : X.N[i]? = some x := by rfl) (hv : Vis X.env.scope x := by first | exact Or.inl rfl | exact Or.inr (Or.inl rfl) | exact Or.inr (Or.inr rfl)) (hG : G[i]? = some (some d) := by rfl) (hd : (x == ("__debug__" : Str)) = false := by decide)
    (hcd : (x == ("__classdict__" : Str)) = false := by decide) : Ev X S (.Name x pos) G W d W := fun σ H ty _ w Q q => by
  obtain ⟨v, e, p⟩ := ty.2 i d hG
  exact ⟨_, pe_var hN hv hd hcd, v, e, q v H (Kept.refl H) w p⟩
theorem ev_int {i j} : Ev X S (.Constant (.int i) j pos) G W (.int i) W := fun _ H _ _ w _ q => ⟨_, pe_int, q _ H (Kept.refl H) w rfl⟩
theorem ev_str {x j} : Ev X S (.Constant (.str x) j pos) G W (.str x) W := fun _ H _ _ w _ q => ⟨_, pe_str, q _ H (Kept.refl H) w rfl⟩
theorem ev_bl {b j} : Ev X S (.Constant (.bool b) j pos) G W (.bl b) W := fun _ H _ _ w _ q => ⟨_, pe_bl, q _ H (Kept.refl H) w rfl⟩
theorem ev_non {j} : Ev X S (.Constant .none j pos) G W .non W := fun _ H _ _ w _ q => ⟨_, pe_non, q _ H (Kept.refl H) w rfl⟩
/-- a module's constant -/
theorem ev_glob {x : Str} {u : Value} {v : V} (hm : X.mg x = some u) (r : RelV v u) (hd : ∀ S H, Dat S H v d) (hg : Gl X x := by rfl) (hdb : (x == ("__debug__" : Str)) = false := by decide) : Ev X S (.Name x pos) G W d W := fun _ H _ _ w _ q =>
  ⟨_, pe_glob hg hm r hdb, q _ H (Kept.refl H) w (hd S H)⟩
theorem eva_nil : EvA X S [] G W [] W := fun _ H _ _ w _ q => ⟨_, pa_nil, q [] H (Kept.refl H) w rfl⟩
theorem eva_cons (h : Ev X S e G W d W1) (hr : EvA X S es G W1 ds W2) (hs : starEach (e :: es) X.env = (false, eval e X.env) :: starEach es X.env := by rfl) : EvA X S (e :: es) G W (d :: ds) W2 := fun σ H ty so w Q q =>
  ⟨_, pa_cons we_pe wa_pa hs, h σ H ty so w _ fun v H1 k1 w1 p1 => hr σ H1 (ty.kept k1) (so.kept k1) w1 _ fun vs H2 k2 w2 p2 => q (v :: vs) H2 (k1.trans k2) w2 ⟨v, vs, rfl, p1.kept k2, p2⟩⟩
theorem dat_new_tup {H : Hp} {p : Addr} {vs : List V} (so : SOk S H) (hp : H p = none) (h : DatL S H vs ds) : Dat S (upd H p (.tup vs)) (.ref p) (.tup ds) := ⟨p, vs, rfl, so.new hp, upd_same, h.kept (Same.kept (Same.new hp))⟩
theorem dat_new_lst {H : Hp} {p : Addr} {vs : List V} (so : SOk S H) (hp : H p = none) (h : DatL S H vs ds) : Dat S (upd H p (.lst vs)) (.ref p) (.lst ds) := ⟨p, vs, rfl, so.new hp, upd_same, h.kept (Same.kept (Same.new hp))⟩
theorem ev_tup {c} (h : EvA X S es G W ds W') (hs : Stb W') (hz : ds.length ≤ 1000 := by first | decide | (simp; done) | omega) : Ev X S (.Tuple es c pos) G W (.tup ds) W' := fun σ H ty so w Q q =>
  ⟨_, pe_tup wa_pa, h σ H ty so w _ fun vs H1 k1 w1 p1 => ⟨Nat.le_of_lt (small1000 (by rw [p1.len]; exact hz)), fun p hp => q _ _ (k1.trans (Same.kept (Same.new hp))) (hs _ _ w1 (Same.new hp)) (dat_new_tup (so.kept k1) hp p1)⟩⟩
theorem ev_lst (h : EvA X S es G W ds W') (hs : Stb W') (hz : ds.length ≤ 1000 := by first | decide | (simp; done) | omega) : Ev X S (.List es pos) G W (.lst ds) W' := fun σ H ty so w Q q =>
  ⟨_, pe_lst wa_pa, h σ H ty so w _ fun vs H1 k1 w1 p1 => ⟨Nat.le_of_lt (small1000 (by rw [p1.len]; exact hz)), fun p hp => q _ _ (k1.trans (Same.kept (Same.new hp))) (hs _ _ w1 (Same.new hp)) (dat_new_lst (so.kept k1) hp p1)⟩⟩
/-- an operator, a comparison on data -/
structure BO (X : Cx) (op : Operator) (da db d : D) : Prop where
  ex : ∃ r : R2, OpR X (binaryOp op) r ∧ ∀ (S : Addr → Prop) (H : Hp) (x y : V), SOk S H → Dat S H x da → Dat S H y db → ∀ Q : VK, (∀ v H', Same H H' → Dat S H' v d → Q v H') → r x y H Q
structure CO (X : Cx) (op : CmpOp) (da db d : D) : Prop where
  ex : ∃ r : R2, OpR X (compareOp op) r ∧ ∀ (S : Addr → Prop) (H : Hp) (x y : V), SOk S H → Dat S H x da → Dat S H y db → ∀ Q : VK, (∀ v H', Same H H' → Dat S H' v d → Q v H') → r x y H Q
theorem ev_bin {op : Operator} (ha : Ev X S a G W da W1) (hb : Ev X S b G W1 db W2) (ho : BO X op da db d) (hs : Stb W2) : Ev X S (.BinOp a op b pos) G W d W2 := fun σ H ty so w Q q => by
  obtain ⟨r, hr, h⟩ := ho.ex
  exact ⟨_, pe_op hr we_pe we_pe, ha σ H ty so w _ fun x H1 k1 w1 p1 => hb σ H1 (ty.kept k1) (so.kept k1) w1 _ fun y H2 k2 w2 p2 =>
    h S H2 x y (so.kept (k1.trans k2)) (p1.kept k2) p2 Q fun v H3 e p3 => q v H3 ((k1.trans k2).trans (Same.kept e)) (hs _ _ w2 e) p3⟩
theorem ev_cmp {op : CmpOp} (ha : Ev X S a G W da W1) (hb : Ev X S b G W1 db W2) (ho : CO X op da db d) (hs : Stb W2) (hm : behindInMarks op b = false := by first | exact nomark _ | rfl) : Ev X S (.Compare a [op] [b] pos) G W d W2 := fun σ H ty so w Q q => by
  obtain ⟨r, hr, h⟩ := ho.ex
  exact ⟨_, pe_cmpR hr we_pe we_pe hm, ha σ H ty so w _ fun x H1 k1 w1 p1 => hb σ H1 (ty.kept k1) (so.kept k1) w1 _ fun y H2 k2 w2 p2 =>
    h S H2 x y (so.kept (k1.trans k2)) (p1.kept k2) p2 Q fun v H3 e p3 => q v H3 ((k1.trans k2).trans (Same.kept e)) (hs _ _ w2 e) p3⟩
theorem et_cmp {op : CmpOp} {c : Bool} (ha : Ev X S a G W da W1) (hb : Ev X S b G W1 db W2) (ho : CO X op da db (.bl c)) (hs : Stb W2) (hm : behindInMarks op b = false := by first | exact nomark _ | rfl) : EvT X S (.Compare a [op] [b] pos) G W c W2 := fun σ H ty so w Q q => by
  obtain ⟨r, hr, h⟩ := ho.ex
  refine ⟨_, pt_cmpR hr we_pe we_pe hm, ha σ H ty so w _ fun x H1 k1 w1 p1 => hb σ H1 (ty.kept k1) (so.kept k1) w1 _ fun y H2 k2 w2 p2 =>
    h S H2 x y (so.kept (k1.trans k2)) (p1.kept k2) p2 _ fun v H3 e p3 => ?_⟩
  cases (show v = .bl c from p3)
  exact ⟨c, rfl, q H3 ((k1.trans k2).trans (Same.kept e)) (hs _ _ w2 e)⟩
/-- a <= b <= c -/
theorem ev_chain {op op' : CmpOp} {b2 : Expr} {dc : D} {x y : Bool} (ha : Ev X S a G W da W1) (hb : Ev X S b G W1 db W2) (ho : CO X op da db (.bl x)) (hc : Ev X S b2 G W2 dc W2) (ho' : CO X op' db dc (.bl y)) (hs : Stb W2)
    (hm : lastMarks [op, op'] [b, b2] = false := by with_unfolding_all rfl) : Ev X S (.Compare a [op, op'] [b, b2] pos) G W (.bl (x && y)) W2 := fun σ H ty so w Q q => by
  obtain ⟨r, o1, h1⟩ := ho.ex
  obtain ⟨r', o2, h2⟩ := ho'.ex
  refine ⟨_, pe_chain o1 o2 we_pe we_pe we_pe hm, ha σ H ty so w _ fun u H1 k1 w1 p1 => hb σ H1 (ty.kept k1) (so.kept k1) w1 _ fun v H2 k2 w2 p2 =>
    h1 S H2 u v (so.kept (k1.trans k2)) (p1.kept k2) p2 _ fun z H3 e p3 => ?_⟩
  cases (show z = .bl x from p3)
  have k3 : Kept S H H3 := (k1.trans k2).trans (Same.kept e)
  refine ⟨x, rfl, ?_⟩
  cases x with
  | true =>
    refine iteT ?_
    exact hc σ H3 (ty.kept k3) (so.kept k3) (hs _ _ w2 e) _ fun t H4 k4 w4 p4 => h2 S H4 v t (so.kept (k3.trans k4)) ((p2.kept (Same.kept e)).kept k4) p4 _ fun z H5 e5 p5 => q z H5 ((k3.trans k4).trans (Same.kept e5)) (hs _ _ w4 e5) p5
  | false =>
    refine iteF ?_
    exact q _ H3 k3 (hs _ _ w2 e) rfl
/-- a test by an expression whose value is a bool -/
theorem et_val {c : Bool} (h : Ev X S e G W (.bl c) W') (he : ∀ whole, isTrue e X.env whole = (do let v ← whole; standAt e.pos; holding [v] (truthy v)) := by intro _; rfl) : EvT X S e G W c W' := fun σ H ty so w Q q =>
  ⟨_, pt_val we_pe he, h σ H ty so w _ fun v H1 k1 w1 p1 => ⟨c, p1, q H1 k1 w1⟩⟩
theorem et_not {c : Bool} (h : EvT X S e G W c W') : EvT X S (.UnaryOp .Not e pos) G W (!c) W' := fun σ H ty so w Q q =>
  ⟨_, pt_not wt_pt, h σ H ty so w _ fun H1 k1 w1 => q H1 k1 w1⟩
theorem ev_not {c : Bool} (h : Ev X S e G W (.bl c) W') : Ev X S (.UnaryOp .Not e pos) G W (.bl (!c)) W' := fun σ H ty so w Q q =>
  ⟨_, pe_not we_pe, h σ H ty so w _ fun v H1 k1 w1 p1 => ⟨c, p1, q _ H1 k1 w1 rfl⟩⟩
/-! and, or -/
theorem ew_one_and {c : Bool} (h : EvT X S a G W c W') : EvW X S (.BoolOp .And [a] pos) G W c W' := fun σ H ty so w Q q => ⟨_, pw_and1 wt_pt, h σ H ty so w _ q⟩
theorem ew_one_or {c : Bool} (h : EvT X S a G W c W') : EvW X S (.BoolOp .Or [a] pos) G W c W' := fun σ H ty so w Q q => ⟨_, pw_or1 wt_pt, h σ H ty so w _ q⟩
theorem ew_and {x y : Bool} {rest : List Expr} (h : EvT X S a G W x W1) (k : x = true → EvW X S (.BoolOp .And (b :: rest) pos) G W1 y W1) : EvW X S (.BoolOp .And (a :: b :: rest) pos) G W (x && y) W1 := fun σ H ty so w Q q => by
  refine ⟨_, pw_and wt_pt ww_pw, h σ H ty so w _ fun H1 k1 w1 => ?_⟩
  cases x with
  | true => exact iteT (k rfl σ H1 (ty.kept k1) (so.kept k1) w1 _ fun H2 k2 w2 => q H2 (k1.trans k2) w2)
  | false => exact iteF (q H1 k1 w1)
theorem ew_or {x y : Bool} {rest : List Expr} (h : EvT X S a G W x W1) (k : x = false → EvW X S (.BoolOp .Or (b :: rest) pos) G W1 y W1) : EvW X S (.BoolOp .Or (a :: b :: rest) pos) G W (x || y) W1 := fun σ H ty so w Q q => by
  refine ⟨_, pw_or wt_pt ww_pw, h σ H ty so w _ fun H1 k1 w1 => ?_⟩
  cases x with
  | true => exact iteT (q H1 k1 w1)
  | false => exact iteF (k rfl σ H1 (ty.kept k1) (so.kept k1) w1 _ fun H2 k2 w2 => q H2 (k1.trans k2) w2)
theorem et_w {c : Bool} (h : EvW X S e G W c W') : EvT X S e G W c W' := fun σ H ty so w Q q => by
  obtain ⟨t, ht, z⟩ := h σ H ty so w Q q
  exact ⟨t, ht.pt, z⟩
theorem ev_one {op} (h : Ev X S a G W d W') : Ev X S (.BoolOp op [a] pos) G W d W' := fun σ H ty so w Q q => ⟨_, pe_one we_pe, h σ H ty so w Q q⟩
theorem ev_and {x y : Bool} {rest : List Expr} (h : Ev X S a G W (.bl x) W1) (k : x = true → Ev X S (.BoolOp .And (b :: rest) pos) G W1 (.bl y) W1) : Ev X S (.BoolOp .And (a :: b :: rest) pos) G W (.bl (x && y)) W1 := fun σ H ty so w Q q => by
  refine ⟨_, pe_and we_pe we_pe, h σ H ty so w _ fun v H1 k1 w1 p1 => ⟨x, p1, ?_⟩⟩
  cases x with
  | true => exact iteT (k rfl σ H1 (ty.kept k1) (so.kept k1) w1 _ fun v H2 k2 w2 p2 => q v H2 (k1.trans k2) w2 p2)
  | false => exact iteF (q _ H1 k1 w1 rfl)
theorem ev_or {x y : Bool} {rest : List Expr} (h : Ev X S a G W (.bl x) W1) (k : x = false → Ev X S (.BoolOp .Or (b :: rest) pos) G W1 (.bl y) W1) : Ev X S (.BoolOp .Or (a :: b :: rest) pos) G W (.bl (x || y)) W1 := fun σ H ty so w Q q => by
  refine ⟨_, pe_or we_pe we_pe, h σ H ty so w _ fun v H1 k1 w1 p1 => ⟨x, p1, ?_⟩⟩
  cases x with
  | true => exact iteT (q _ H1 k1 w1 rfl)
  | false => exact iteF (k rfl σ H1 (ty.kept k1) (so.kept k1) w1 _ fun v H2 k2 w2 p2 => q v H2 (k1.trans k2) w2 p2)
theorem ev_ifx {c : Bool} {t : Expr} (h : EvT X S t G W c W1) (h1 : c = true → Ev X S a G W1 d W1) (h2 : c = false → Ev X S b G W1 d W1) : Ev X S (.IfExp t a b pos) G W d W1 := fun σ H ty so w Q q => by
  refine ⟨_, pe_ifExp wt_pt we_pe we_pe, h σ H ty so w _ fun H1 k1 w1 => ?_⟩
  cases c with
  | true => exact iteT (h1 rfl σ H1 (ty.kept k1) (so.kept k1) w1 _ fun v H2 k2 w2 p2 => q v H2 (k1.trans k2) w2 p2)
  | false => exact iteF (h2 rfl σ H1 (ty.kept k1) (so.kept k1) w1 _ fun v H2 k2 w2 p2 => q v H2 (k1.trans k2) w2 p2)
theorem ev_is {d' : D} (h : Ev X S e G W d W') (q : d = d') : Ev X S e G W d' W' := q ▸ h
theorem et_is {c c' : Bool} (h : EvT X S e G W c W') (q : c = c') : EvT X S e G W c' W' := q ▸ h
/-- the assertion behind is weakened, the one ahead is strengthened -/
theorem Ev.imp (h : Ev X S e G W d W1) (k0 : ∀ H, W2 H → W H) (k : ∀ H, W1 H → W3 H) : Ev X S e G W2 d W3 := fun σ H ty so w Q q => h σ H ty so (k0 H w) Q fun v H' kk w' p => q v H' kk (k H' w') p
end
end Ink
/-! Ink1 -/
/-! The D-layer: operators, subscripts, slices, built-ins, fields. -/
namespace Ink
open PySem PySem.Spec PyProof.Rows L2

/-! ### operators on data -/
section
variable {X : Cx} {i j : Int} {x y : Str} {k l : List D}
theorem bo_int {op : Operator} {g : Int → Int → V} {dg : D} (h : OpR X (binaryOp op) (rI0 g)) (e : ∀ S H, Dat S H (g i j) dg) : BO X op (.int i) (.int j) dg := ⟨_, h, fun S H a b _ p q Q k => by
  cases (show a = .int i from p)
  cases (show b = .int j from q)
  exact ⟨i, j, rfl, rfl, k _ H (Same.refl H) (e S H)⟩⟩
theorem bo_intC {op : Operator} {C : Int → Int → Prop} {g : Int → Int → V} {dg : D} (h : OpR X (binaryOp op) (rI C g)) (c : C i j) (e : ∀ S H, Dat S H (g i j) dg) : BO X op (.int i) (.int j) dg := ⟨_, h, fun S H a b _ p q Q k => by
  cases (show a = .int i from p)
  cases (show b = .int j from q)
  exact ⟨i, j, rfl, rfl, c, k _ H (Same.refl H) (e S H)⟩⟩
theorem cm_int {op : CmpOp} {g : Int → Int → V} {dg : D} (h : OpR X (compareOp op) (rI0 g)) (e : ∀ S H, Dat S H (g i j) dg) : CO X op (.int i) (.int j) dg := ⟨_, h, fun S H a b _ p q Q k => by
  cases (show a = .int i from p)
  cases (show b = .int j from q)
  exact ⟨i, j, rfl, rfl, k _ H (Same.refl H) (e S H)⟩⟩
theorem bo_add : BO X .Add (.int i) (.int j) (.int (i + j)) := bo_int op_add fun _ _ => rfl
theorem bo_sub : BO X .Sub (.int i) (.int j) (.int (i - j)) := bo_int op_sub fun _ _ => rfl
theorem bo_mod (h : 0 < j) : BO X .Mod (.int i) (.int j) (.int (i % j)) := bo_intC op_mod h fun _ _ => rfl
theorem bo_fdiv (h : 0 < j ∧ j < 1073741824) : BO X .FloorDiv (.int i) (.int j) (.int (i / j)) := bo_intC op_fdiv h fun _ _ => rfl
theorem bo_pow (h : 0 ≤ j ∧ j ≤ 1000000 ∧ i.natAbs < 2 ^ 64) : BO X .Pow (.int i) (.int j) (.int (i ^ j.toNat)) := bo_intC op_pow h fun _ _ => rfl
theorem bo_lt : CO X .Lt (.int i) (.int j) (.bl (decide (i < j))) := cm_int op_lt fun _ _ => rfl
theorem bo_le : CO X .LtE (.int i) (.int j) (.bl (decide (i ≤ j))) := cm_int op_le fun _ _ => rfl
theorem bo_gt : CO X .Gt (.int i) (.int j) (.bl (decide (j < i))) := cm_int op_gt fun _ _ => rfl
theorem bo_ge : CO X .GtE (.int i) (.int j) (.bl (decide (j ≤ i))) := cm_int op_ge fun _ _ => rfl
/-- flat data as a value -/
def fl : D → Option V
  | .non => some .non
  | .bl b => some (.bl b)
  | .int i => some (.int i)
  | .str x => some (.str x)
  | _ => none
theorem fl_dat {S : Addr → Prop} {H : Hp} : ∀ {d : D} {u v : V}, fl d = some u → Dat S H v d → v = u
  | .non, _, _, e, p => (show _ = V.non from p).trans (Option.some.inj e)
  | .bl _, _, _, e, p => (show _ = V.bl _ from p).trans (Option.some.inj e)
  | .int _, _, _, e, p => (show _ = V.int _ from p).trans (Option.some.inj e)
  | .str _, _, _, e, p => (show _ = V.str _ from p).trans (Option.some.inj e)
  | .tup _, _, _, e, _ => nomatch e
  | .lst _, _, _, e, _ => nomatch e
  | .dct, _, _, e, _ => nomatch e
  | .ref _, _, _, e, _ => nomatch e
  | .ty _, _, _, e, _ => nomatch e
theorem bo_eq {da db : D} {u v : V} (ha : fl da = some u := by rfl) (hb : fl db = some v := by rfl) (hs : scal u v = true := by rfl) : CO X .Eq da db (.bl (decide (u = v))) := ⟨_, op_eq, fun S H a b _ p q Q k => by
  have e1 := fl_dat ha p
  have e2 := fl_dat hb q
  subst e1
  subst e2
  exact ⟨hs, k _ H (Same.refl H) rfl⟩⟩
theorem bo_ne {da db : D} {u v : V} (ha : fl da = some u := by rfl) (hb : fl db = some v := by rfl) (hs : scal u v = true := by rfl) : CO X .NotEq da db (.bl (!decide (u = v))) := ⟨_, op_ne, fun S H a b _ p q Q k => by
  have e1 := fl_dat ha p
  have e2 := fl_dat hb q
  subst e1
  subst e2
  exact ⟨hs, k _ H (Same.refl H) rfl⟩⟩
theorem dec_int {i j : Int} : decide (V.int i = V.int j) = decide (i = j) := by
  by_cases h : i = j
  · subst h
    rw [decide_eq_true rfl, decide_eq_true rfl]
  · rw [decide_eq_false h, decide_eq_false fun e => h (V.int.inj e)]
theorem dec_str {i j : Str} : decide (V.str i = V.str j) = decide (i = j) := by
  by_cases h : i = j
  · subst h
    rw [decide_eq_true rfl, decide_eq_true rfl]
  · rw [decide_eq_false h, decide_eq_false fun e => h (V.str.inj e)]
theorem bo_eqI : CO X .Eq (.int i) (.int j) (.bl (decide (i = j))) := dec_int (i := i) (j := j) ▸ bo_eq
theorem bo_neI : CO X .NotEq (.int i) (.int j) (.bl (!decide (i = j))) := dec_int (i := i) (j := j) ▸ bo_ne
theorem bo_eqS : CO X .Eq (.str x) (.str y) (.bl (decide (x = y))) := dec_str (i := x) (j := y) ▸ bo_eq
theorem bo_neS : CO X .NotEq (.str x) (.str y) (.bl (!decide (x = y))) := dec_str (i := x) (j := y) ▸ bo_ne
theorem bo_isN {d : D} {v : V} (h : fl d = some v) : CO X .Is d .non (.bl (decide (v = .non))) := ⟨_, op_isN, fun S H a b _ p q Q k => by
  have e1 := fl_dat h p
  subst e1
  cases (show b = .non from q)
  exact ⟨rfl, k _ H (Same.refl H) rfl⟩⟩
theorem bo_isN_lst : CO X .Is (.lst k) .non (.bl false) := ⟨_, op_isN, fun S H a b _ p q Q k => by
  obtain ⟨c, vs, rfl, _⟩ := p
  cases (show b = .non from q)
  exact ⟨rfl, k _ H (Same.refl H) rfl⟩⟩
theorem bo_isN_non : CO X .Is .non .non (.bl true) := ⟨_, op_isN, fun S H a b _ p q Q k => by
  cases (show a = .non from p)
  cases (show b = .non from q)
  exact ⟨rfl, k _ H (Same.refl H) rfl⟩⟩
theorem bo_notN_lst : CO X .IsNot (.lst k) .non (.bl true) := ⟨_, op_notN, fun S H a b _ p q Q k => by
  obtain ⟨c, vs, rfl, _⟩ := p
  cases (show b = .non from q)
  exact ⟨rfl, k _ H (Same.refl H) rfl⟩⟩
theorem bo_notN_non : CO X .IsNot .non .non (.bl false) := ⟨_, op_notN, fun S H a b _ p q Q k => by
  cases (show a = .non from p)
  cases (show b = .non from q)
  exact ⟨rfl, k _ H (Same.refl H) rfl⟩⟩
theorem bo_addS (h : x.length + y.length ≤ 1000000) : BO X .Add (.str x) (.str y) (.str (x ++ y)) := ⟨_, op_add_str, fun S H a b _ p q Q k => by
  cases (show a = .str x from p)
  cases (show b = .str y from q)
  exact ⟨x, y, rfl, rfl, Nat.le_trans h (by decide), k _ H (Same.refl H) rfl⟩⟩
theorem bo_addL (h : k.length + l.length ≤ 1000) : BO X .Add (.lst k) (.lst l) (.lst (k ++ l)) := ⟨_, op_cat, fun S H a b so p q Q c => by
  obtain ⟨m, vs, rfl, _, hm, r⟩ := p
  obtain ⟨n, ws, rfl, _, hn, t⟩ := q
  exact ⟨m, n, vs, ws, rfl, rfl, hm, hn, by rw [r.len, t.len]; exact Nat.le_of_lt (small1000 h), fun p hp => c _ _ (Same.new hp) (dat_new_lst so hp (r.append t))⟩⟩
theorem bo_addT (h : k.length + l.length ≤ 1000) (h1 : k ≠ []) (h2 : l ≠ []) : BO X .Add (.tup k) (.tup l) (.tup (k ++ l)) := ⟨_, op_catT, fun S H a b so p q Q c => by
  obtain ⟨m, vs, rfl, _, hm, r⟩ := p
  obtain ⟨n, ws, rfl, _, hn, t⟩ := q
  have lv := r.len
  have lw := t.len
  refine ⟨m, n, vs, ws, rfl, rfl, SqT.of hm, SqT.of hn, fun e => h1 (List.eq_nil_of_length_eq_zero (by rw [← lv, e]; rfl)), by rw [lv, lw]; exact Nat.le_of_lt (small1000 h), fun e => absurd (List.eq_nil_of_length_eq_zero (by rw [← lw, e]; rfl)) h2, fun _ p hp => c _ _ (Same.new hp) (dat_new_tup so hp (r.append t))⟩⟩
theorem datL_rep {S : Addr → Prop} {H : Hp} {v : V} {d : D} (h : Dat S H v d) : ∀ n : Nat, DatL S H (List.replicate n v) (List.replicate n d)
  | 0 => rfl
  | n + 1 => ⟨v, List.replicate n v, rfl, h, datL_rep h n⟩
theorem flat_rep {α : Type} (x : α) : ∀ n : Nat, (List.replicate n [x]).flatten = List.replicate n x
  | 0 => rfl
  | n + 1 => by
    rw [List.replicate_succ, List.flatten_cons, flat_rep x n]
    rfl
/-- [x] * n -/
theorem bo_rep {d : D} (h0 : 0 ≤ j) (h1 : j ≤ 1000) : BO X .Mult (.lst [d]) (.int j) (.lst (List.replicate j.toNat d)) := ⟨_, op_rep, fun S H a b so p q Q c => by
  obtain ⟨m, vs, rfl, _, hm, r⟩ := p
  cases (show b = .int j from q)
  obtain ⟨v, w, e, p1, p2⟩ := r
  cases (show w = [] from p2)
  subst e
  refine ⟨m, j, [v], rfl, rfl, hm, by omega, by omega, by show 1 * j.toNat ≤ sizeLine; exact Nat.le_of_lt (small1000 (by omega)), fun p hp => c _ _ (Same.new hp) ?_⟩
  rw [flat_rep]
  exact dat_new_lst so hp (datL_rep p1 _)⟩
/-- (list of signs) n times -/
theorem rep_sz (z : Array Nat) : ∀ n : Nat, ((List.replicate n z).foldl (· ++ ·) (#[] : Array Nat)).toList = (List.replicate n z.toList).flatten := by
  have gen : ∀ (n : Nat) (a : Array Nat), ((List.replicate n z).foldl (· ++ ·) a).toList = a.toList ++ (List.replicate n z.toList).flatten := by
    intro n
    induction n with
    | zero => intro a; simp
    | succ n ih =>
      intro a
      rw [List.replicate_succ, List.foldl_cons, ih, List.replicate_succ, List.flatten_cons, Array.toList_append, List.append_assoc]
  intro n
  rw [gen]
  rfl
theorem op_mulS : OpR X (binaryOp .Mult) (fun x y H Q => ∃ (c : Nat) (i : Int), x = .str ⟨#[c]⟩ ∧ y = .int i ∧ 1 ≤ i ∧ i ≤ 100000 ∧ Q (.str ⟨(List.replicate i.toNat c).toArray⟩) H) := by
  intro pins s σ H x y v u Q I rx ry h
  obtain ⟨c, i, rfl, rfl, h1, h2, q⟩ := h
  obtain ⟨t, rfl⟩ := rx
  obtain ⟨t', rfl⟩ := ry
  have hl : sizeLine = 16777216 := sizeLine_eq
  have e : (List.replicate i.toNat (#[c] : Array Nat)).foldl (· ++ ·) #[] = (List.replicate i.toNat c).toArray := by
    apply Array.toList_inj.mp
    rw [rep_sz]
    exact flat_rep c i.toNat
  refine PySem.P.mul_str (by
      have a1 : ¬ i < -(2 ^ 63 : Int) := by omega
      have a2 : ¬ i ≥ 2 ^ 63 := by omega
      rw [decide_eq_false a1, decide_eq_false a2]; rfl) (fun _ _ => ?_) (fun _ _ => ?_) ?_
  · have e1 : ((⟨#[c]⟩ : Str).length : Int) = 1 := rfl
    have e2 : (2 ^ 63 - 1 : Int) / i ≥ 1 := (Int.le_ediv_iff_mul_le (by omega)).mpr (by omega)
    omega
  · have e1 : (⟨#[c]⟩ : Str).length = 1 := rfl
    unfold Builtin.Str.tooLong
    rw [e1, decide_eq_false]
    omega
  · rw [if_neg (by omega)]
    by_cases c1 : (i == 1 || (⟨#[c]⟩ : Str).length == 0) = true
    · rw [if_pos c1]
      have ei : i = 1 := by
        rcases Bool.or_eq_true_iff.mp c1 with z | z
        · exact eq_of_beq z
        · exact absurd (show ((1 : Nat) == 0) = true from z) (by decide)
      subst ei
      exact ⟨.str _, H, I, ⟨_, rfl⟩, q⟩
    · rw [if_neg c1, e]
      exact ⟨by
        show (List.replicate i.toNat c).toArray.size ≤ sizeLine
        rw [List.size_toArray, List.length_replicate]
        omega, .str _, H, I.tok _, ⟨_, rfl⟩, q⟩
theorem bo_mulS {c : Nat} (h1 : 1 ≤ j) (h2 : j ≤ 100000) : BO X .Mult (.str ⟨#[c]⟩) (.int j) (.str ⟨(List.replicate j.toNat c).toArray⟩) := ⟨_, op_mulS, fun S H a b _ p q Q k => by
  cases (show a = .str ⟨#[c]⟩ from p)
  cases (show b = .int j from q)
  exact ⟨c, j, rfl, rfl, h1, h2, k _ H (Same.refl H) rfl⟩⟩
end

/-! ### data as PyData: equality at any depth -/
mutual
def py : D → PyData
  | .non => .none
  | .bl b => .bool b
  | .int i => .int i
  | .str x => .str x
  | .tup l => .tuple (pyL l)
  | .lst l => .list (pyL l)
  | .dct => .none
  | .ref _ => .none
  | .ty _ => .none
def pyL : List D → List PyData
  | [] => []
  | d :: ds => py d :: pyL ds
end
mutual
def isPy : D → Bool
  | .non => true
  | .bl _ => true
  | .int _ => true
  | .str _ => true
  | .tup l => isPyL l
  | .lst l => isPyL l
  | .dct => false
  | .ref _ => false
  | .ty _ => false
def isPyL : List D → Bool
  | [] => true
  | d :: ds => isPy d && isPyL ds
end
mutual
theorem dp_of {K : PySem.W.Frag} {S : Addr → Prop} {H : Hp} : ∀ (d : D) (v : V), isPy d = true → Dat S H v d → Dp K H v (py d)
  | .non, _, _, h => by
    cases (show _ = V.non from h)
    exact .non
  | .bl _, _, _, h => by
    cases (show _ = V.bl _ from h)
    exact .bl _
  | .int _, _, _, h => by
    cases (show _ = V.int _ from h)
    exact .int _
  | .str _, _, _, h => by
    cases (show _ = V.str _ from h)
    exact .str _
  | .tup l, _, e, h => by
    obtain ⟨a, vs, rfl, _, q, r⟩ := h
    exact .tup (SqT.of q) (dp_all l vs e r)
  | .lst l, _, e, h => by
    obtain ⟨a, vs, rfl, _, q, r⟩ := h
    exact .lst (SqL.of q) (dp_all l vs e r)
  | .dct, _, e, _ => nomatch e
  | .ref _, _, e, _ => nomatch e
  | .ty _, _, e, _ => nomatch e
theorem dp_all {K : PySem.W.Frag} {S : Addr → Prop} {H : Hp} : ∀ (l : List D) (vs : List V), isPyL l = true → DatL S H vs l → DpAll K H vs (pyL l)
  | [], _, _, h => by
    cases (show _ = [] from h)
    exact .nil
  | d :: ds, _, e, h => by
    obtain ⟨v, r, rfl, p, q⟩ := h
    have e2 : isPy d = true ∧ isPyL ds = true := by
      have e3 : (isPy d && isPyL ds) = true := e
      simpa using e3
    exact .cons (dp_of d v e2.1 p) (dp_all ds r e2.2 q)
end
section
variable {X : Cx} {da db : D}
theorem bo_eqD (hu : X.A.units + 64 < cLine) (h1 : isPy da = true := by rfl) (h2 : isPy db = true := by rfl) (s1 : SeqAt.shaped (py da) = true := by rfl) (s2 : SeqAt.shaped (py db) = true := by rfl) : CO X .Eq da db (.bl (PyData.eqv (py da) (py db))) :=
  ⟨_, op_eqD hu, fun S H a b _ p q Q k => ⟨py da, py db, dp_of da a h1 p, dp_of db b h2 q, s1, s2, k _ H (Same.refl H) rfl⟩⟩
theorem bo_neD (hu : X.A.units + 64 < cLine) (h1 : isPy da = true := by rfl) (h2 : isPy db = true := by rfl) (s1 : SeqAt.shaped (py da) = true := by rfl) (s2 : SeqAt.shaped (py db) = true := by rfl) : CO X .NotEq da db (.bl (!PyData.eqv (py da) (py db))) :=
  ⟨_, op_neD hu, fun S H a b _ p q Q k => ⟨py da, py db, dp_of da a h1 p, dp_of db b h2 q, s1, s2, k _ H (Same.refl H) rfl⟩⟩
/-- x in (a, b), texts -/
theorem bo_in2 {x a b : Str} : CO X .In (.str x) (.tup [.str a, .str b]) (.bl (decide (a = x) || decide (b = x))) := ⟨_, op_in_seq, fun S H u v _ p q Q k => by
  cases (show u = .str x from p)
  obtain ⟨t, vs, rfl, _, ht, r⟩ := q
  obtain ⟨v1, r1, rfl, e1, r⟩ := r
  obtain ⟨v2, r2, rfl, e2, r⟩ := r
  cases (show r2 = [] from r)
  cases (show v1 = .str a from e1)
  cases (show v2 = .str b from e2)
  refine ⟨t, _, rfl, .inr (SqT.of ht), rfl, rfl, k _ H (Same.refl H) ?_⟩
  show V.bl ((a == x) || ((b == x) || false)) = V.bl (decide (a = x) || decide (b = x))
  rw [Bool.or_false, Bool.beq_eq_decide_eq, Bool.beq_eq_decide_eq]⟩
/-- one sign in a text -/
theorem bo_inC {c : Nat} {z : Str} : CO X .In (.str ⟨#[c]⟩) (.str z) (.bl (decide (c ∈ z.cps.toList))) := ⟨_, op_in_sign, fun S H u v _ p q Q k => by
  cases (show u = .str ⟨#[c]⟩ from p)
  cases (show v = .str z from q)
  exact ⟨c, z, rfl, rfl, k _ H (Same.refl H) rfl⟩⟩
end

/-! ### subscripts, slices -/
structure IxO (X : Cx) (da db d : D) : Prop where
  ex : ∃ r : R2, IxR X r ∧ ∀ (S : Addr → Prop) (H : Hp) (x y : V), SOk S H → Dat S H x da → Dat S H y db → ∀ Q : VK, (∀ v, Dat S H v d → Q v H) → r x y H Q
structure SlO (X : Cx) (da : D) (lo hi : Option Int) (d : D) : Prop where
  ex : ∃ r, SlR X r ∧ ∀ (S : Addr → Prop) (H : Hp) (x : V), SOk S H → Dat S H x da → ∀ Q : VK, (∀ v H', Same H H' → Dat S H' v d → Q v H') → r x lo hi H Q
def EvO (X : Cx) (S : Addr → Prop) (o : Option Expr) (G : Gm) (W : As) (oi : Option Int) (W' : As) : Prop :=
  ∀ σ H, Ty S H σ G → SOk S H → W H → ∀ Q : Option Int → Hp → Prop, (∀ H', Kept S H H' → W' H' → Q oi H') → ∃ t, PO X o t ∧ t σ H Q
def cutD (l : List D) (lo hi : Option Int) : List D := (l.drop (HT.sIx l.length 0 lo)).take (HT.sIx l.length l.length hi - HT.sIx l.length 0 lo)
section
variable {X : Cx} {S : Addr → Prop} {G : Gm} {W W1 W2 W3 W' : As} {pos : Pos} {a b e : Expr} {es : List Expr} {d da db : D} {ds l : List D} {i : Int} {lo hi : Option Expr} {oi oj : Option Int} {z : Str}
theorem atI_dat {H : Hp} {vs : List V} (h : DatL S H vs l) (e : atI l i = some d) : ∃ v, atI vs i = some v ∧ Dat S H v d := by
  unfold atI at e ⊢
  rw [h.len]
  cases q : ixN l.length i with
  | none =>
    rw [q] at e
    cases e
  | some j =>
    rw [q] at e
    exact h.get e
theorem io_lst (h : atI l i = some d) : IxO X (.lst l) (.int i) d := ⟨_, ix_list, fun S H x y _ p q Q k => by
  obtain ⟨t, vs, rfl, _, ht, r⟩ := p
  cases (show y = .int i from q)
  obtain ⟨v, hv, pv⟩ := atI_dat r h
  exact ⟨t, vs, i, v, rfl, rfl, SqL.of ht, hv, k v pv⟩⟩
theorem io_tup (h : atI l i = some d) : IxO X (.tup l) (.int i) d := ⟨_, ix_tup, fun S H x y _ p q Q k => by
  obtain ⟨t, vs, rfl, _, ht, r⟩ := p
  cases (show y = .int i from q)
  obtain ⟨v, hv, pv⟩ := atI_dat r h
  exact ⟨t, vs, i, v, rfl, rfl, SqT.of ht, hv, k v pv⟩⟩
theorem io_str {c : Nat} (hz : z.length ≤ 1000) (h : atI z.cps.toList i = some c) : IxO X (.str z) (.int i) (.str ⟨#[c]⟩) := ⟨_, ix_str, fun S H x y _ p q Q k => by
  cases (show x = .str z from p)
  cases (show y = .int i from q)
  exact ⟨z, i, c, rfl, rfl, Nat.le_of_lt (small1000 hz), h, k _ rfl⟩⟩
theorem ev_ix (ha : Ev X S a G W da W1) (hb : Ev X S b G W1 db W2) (ho : IxO X da db d) (hs : PlainIx b := by exact fun _ _ => rfl) : Ev X S (.Subscript a b pos) G W d W2 := fun σ H ty so w Q q => by
  obtain ⟨r, hr, h⟩ := ho.ex
  exact ⟨_, pe_ix hr we_pe we_pe hs, ha σ H ty so w _ fun x H1 k1 w1 p1 => hb σ H1 (ty.kept k1) (so.kept k1) w1 _ fun y H2 k2 w2 p2 => h S H2 x y (so.kept (k1.trans k2)) (p1.kept k2) p2 Q fun v p3 => q v H2 (k1.trans k2) w2 p3⟩
theorem eo_none : EvO X S none G W none W := fun σ H _ _ w Q q => ⟨_, po_none, q H (Kept.refl H) w⟩
theorem eo_some (h : Ev X S e G W (.int i) W') : EvO X S (some e) G W (some i) W' := fun σ H ty so w Q q => ⟨_, po_some we_pe, h σ H ty so w _ fun v H1 k1 w1 p1 => ⟨i, p1, q H1 k1 w1⟩⟩
theorem ev_sl {p2 : Pos} (ha : Ev X S a G W da W1) (hl : EvO X S lo G W1 oi W2) (hu : EvO X S hi G W2 oj W3) (ho : SlO X da oi oj d) (hs : Stb W3) : Ev X S (.Subscript a (.Slice lo hi none p2) pos) G W d W3 := fun σ H ty so w Q q => by
  obtain ⟨r, hr, h⟩ := ho.ex
  refine ⟨_, ⟨fun pins s σ H Q I z => (pe_slice (lo := lo) (hi := hi) (p2 := p2) (pos := pos) hr (we_pe (e := a)) (tl := fun σ H Q => ∃ t, PO X lo t ∧ t σ H Q) (th := fun σ H Q => ∃ t, PO X hi t ∧ t σ H Q) ⟨fun pins s σ H Q I ⟨t, c, z⟩ => c.run pins s σ H Q I z⟩ ⟨fun pins s σ H Q I ⟨t, c, z⟩ => c.run pins s σ H Q I z⟩).run pins s σ H Q I z⟩, ?_⟩
  exact ha σ H ty so w _ fun x H1 k1 w1 p1 => hl σ H1 (ty.kept k1) (so.kept k1) w1 _ fun H2 k2 w2 => hu σ H2 (ty.kept (k1.trans k2)) (so.kept (k1.trans k2)) w2 _ fun H3 k3 w3 =>
    h S H3 x (so.kept ((k1.trans k2).trans k3)) ((p1.kept k2).kept k3) Q fun v H4 e p4 => q v H4 (((k1.trans k2).trans k3).trans (Same.kept e)) (hs _ _ w3 e) p4
theorem so_lst : SlO X (.lst l) oi oj (.lst (cutD l oi oj)) := ⟨_, sl_list, fun S H x so p Q k => by
  obtain ⟨t, vs, rfl, _, ht, r⟩ := p
  refine ⟨t, vs, rfl, SqL.of ht, fun q hq => k _ _ (Same.new hq) (dat_new_lst so hq ?_)⟩
  unfold cutV cutD
  rw [r.len]
  exact (r.drop _).take _⟩
theorem so_tup (h : ¬ (HT.sIx l.length 0 oi = 0 ∧ HT.sIx l.length l.length oj = l.length)) : SlO X (.tup l) oi oj (.tup (cutD l oi oj)) := ⟨_, sl_tup, fun S H x so p Q k => by
  obtain ⟨t, vs, rfl, _, ht, r⟩ := p
  refine ⟨t, vs, rfl, SqT.of ht, by rw [r.len]; exact h, fun q hq => k _ _ (Same.new hq) (dat_new_tup so hq ?_)⟩
  unfold cutV cutD
  rw [r.len]
  exact (r.drop _).take _⟩
theorem so_str (hz : z.length ≤ 1000) : SlO X (.str z) oi oj (.str (cutS z oi oj)) := ⟨_, sl_str, fun S H x so p Q k => by
  cases (show x = .str z from p)
  exact ⟨z, rfl, Nat.le_of_lt (small1000 hz), k _ H (Same.refl H) rfl⟩⟩

/-! ### built-ins -/
structure CalO (X : Cx) (f : Value) (ds : List D) (d : D) : Prop where
  ex : ∃ r, CallR X f r ∧ ∀ (S : Addr → Prop) (H : Hp) (vs : List V), SOk S H → DatL S H vs ds → ∀ Q : VK, (∀ v H', Same H H' → Dat S H' v d → Q v H') → r vs H Q
theorem ev_bi {x : Str} {id : String} {p : Pos} (ha : EvA X S (e :: es) G W ds W') (ho : CalO X (.builtin id) ds d) (hs : Stb W') (hm : X.mg x = none) (hv : bootBuiltins x = some (.builtin id)) (hg : Gl X x := by rfl) (hn : x ≠ "__name__" := by decide) (hdb : (x == ("__debug__" : Str)) = false := by decide)
    (he : starEach (e :: es) X.env = (false, eval e X.env) :: starEach es X.env := by rfl) (hpl : (backTo pos (starEach es X.env)).any (·.1) = false := by rfl) : Ev X S (.Call (.Name x p) (e :: es) [] pos) G W d W' := fun σ H ty so w Q q => by
  obtain ⟨r, hr, h⟩ := ho.ex
  exact ⟨_, pe_callB hr hg hm hv wa_pa hn hdb he hpl, ha σ H ty so w _ fun vs H1 k1 w1 p1 => h S H1 vs (so.kept k1) p1 Q fun v H2 e p2 => q v H2 (k1.trans (Same.kept e)) (hs _ _ w1 e) p2⟩
theorem ev_bt {x : Str} {T : String} {p : Pos} (ha : EvA X S (e :: es) G W ds W') (ho : CalO X (.type T) ds d) (hs : Stb W') (hm : X.mg x = none) (hv : bootBuiltins x = some (.type T)) (hg : Gl X x := by rfl) (hn : x ≠ "__name__" := by decide) (hdb : (x == ("__debug__" : Str)) = false := by decide)
    (he : starEach (e :: es) X.env = (false, eval e X.env) :: starEach es X.env := by rfl) (hpl : (backTo pos (starEach es X.env)).any (·.1) = false := by rfl) : Ev X S (.Call (.Name x p) (e :: es) [] pos) G W d W' := fun σ H ty so w Q q => by
  obtain ⟨r, hr, h⟩ := ho.ex
  exact ⟨_, pe_callTy hr hg hm hv wa_pa hn hdb he hpl, ha σ H ty so w _ fun vs H1 k1 w1 p1 => h S H1 vs (so.kept k1) p1 Q fun v H2 e p2 => q v H2 (k1.trans (Same.kept e)) (hs _ _ w1 e) p2⟩
theorem one_dat {H : Hp} {vs : List V} (h : DatL S H vs [d]) : ∃ v, vs = [v] ∧ Dat S H v d := by
  obtain ⟨v, r, rfl, p, q⟩ := h
  cases (show r = [] from q)
  exact ⟨v, rfl, p⟩
theorem two_dat {H : Hp} {vs : List V} (h : DatL S H vs [da, db]) : ∃ u v, vs = [u, v] ∧ Dat S H u da ∧ Dat S H v db := by
  obtain ⟨v, r, rfl, p, q⟩ := h
  obtain ⟨u, rfl, q2⟩ := one_dat q
  exact ⟨v, u, rfl, p, q2⟩
theorem co_len_lst : CalO X (.builtin "len") [.lst l] (.int (l.length : Int)) := ⟨_, call_len_seq, fun S H vs _ h Q k => by
  obtain ⟨v, rfl, t, ws, rfl, _, ht, r⟩ := one_dat h
  exact ⟨t, ws, rfl, .inl (SqL.of ht), k _ H (Same.refl H) (by show V.int _ = V.int _; rw [r.len])⟩⟩
theorem co_len_tup : CalO X (.builtin "len") [.tup l] (.int (l.length : Int)) := ⟨_, call_len_seq, fun S H vs _ h Q k => by
  obtain ⟨v, rfl, t, ws, rfl, _, ht, r⟩ := one_dat h
  exact ⟨t, ws, rfl, .inr (SqT.of ht), k _ H (Same.refl H) (by show V.int _ = V.int _; rw [r.len])⟩⟩
theorem co_len_str (hz : z.length ≤ 1000) : CalO X (.builtin "len") [.str z] (.int (z.length : Int)) := ⟨_, call_len_str, fun S H vs _ h Q k => by
  obtain ⟨v, rfl, p⟩ := one_dat h
  cases (show v = .str z from p)
  exact ⟨z, rfl, Nat.le_of_lt (small1000 hz), k _ H (Same.refl H) rfl⟩⟩
theorem co_max {i j : Int} (hc : X.calm = true) : CalO X (.builtin "max") [.int i, .int j] (.int (if j > i then j else i)) := ⟨_, call_max2 hc, fun S H vs _ h Q k => by
  obtain ⟨u, v, rfl, p, q⟩ := two_dat h
  cases (show u = .int i from p)
  cases (show v = .int j from q)
  exact ⟨i, j, rfl, k _ H (Same.refl H) rfl⟩⟩
theorem co_min {i j : Int} (hc : X.calm = true) : CalO X (.builtin "min") [.int i, .int j] (.int (if j < i then j else i)) := ⟨_, call_min2 hc, fun S H vs _ h Q k => by
  obtain ⟨u, v, rfl, p, q⟩ := two_dat h
  cases (show u = .int i from p)
  cases (show v = .int j from q)
  exact ⟨i, j, rfl, k _ H (Same.refl H) rfl⟩⟩
theorem co_intB {b : Bool} : CalO X (.type "int") [.bl b] (.int (if b then 1 else 0)) := ⟨_, call_int1, fun S H vs _ h Q k => by
  obtain ⟨v, rfl, p⟩ := one_dat h
  cases (show v = .bl b from p)
  exact .inr ⟨b, rfl, k _ H (Same.refl H) rfl⟩⟩
theorem co_list_lst : CalO X (.type "list") [.lst l] (.lst l) := ⟨_, call_list_of, fun S H vs so h Q k => by
  obtain ⟨v, rfl, t, ws, rfl, _, ht, r⟩ := one_dat h
  exact ⟨t, ws, rfl, .inl (SqL.of ht), fun p hp => k _ _ (Same.new hp) (dat_new_lst so hp r)⟩⟩
theorem bls_dat {H : Hp} : ∀ {bs : List Bool} {vs : List V}, DatL S H vs (bs.map D.bl) → vs = bs.map V.bl
  | [], _, h => h
  | b :: bs, _, h => by
    obtain ⟨v, r, rfl, p, q⟩ := h
    cases (show v = .bl b from p)
    rw [bls_dat q]
    rfl
theorem ints_dat {H : Hp} : ∀ {ns : List Int} {vs : List V}, DatL S H vs (ns.map D.int) → vs = ns.map V.int
  | [], _, h => h
  | b :: bs, _, h => by
    obtain ⟨v, r, rfl, p, q⟩ := h
    cases (show v = .int b from p)
    rw [ints_dat q]
    rfl
theorem strs_dat {H : Hp} : ∀ {ns : List Str} {vs : List V}, DatL S H vs (ns.map D.str) → vs = ns.map V.str
  | [], _, h => h
  | b :: bs, _, h => by
    obtain ⟨v, r, rfl, p, q⟩ := h
    cases (show v = .str b from p)
    rw [strs_dat q]
    rfl
theorem co_all {bs : List Bool} (hc : X.calm = true) : CalO X (.builtin "all") [.lst (bs.map D.bl)] (.bl (bs.all id)) := ⟨_, cr_all hc, fun S H vs _ h Q k => by
  obtain ⟨v, rfl, t, ws, rfl, _, ht, r⟩ := one_dat h
  have e := bls_dat r
  subst e
  exact ⟨t, bs, rfl, SqL.of ht, k _ H (Same.refl H) rfl⟩⟩
theorem co_sum {ns : List Int} (hc : X.calm = true) : CalO X (.builtin "sum") [.lst (ns.map D.int)] (.int ns.sum) := ⟨_, cr_sum hc, fun S H vs _ h Q k => by
  obtain ⟨v, rfl, t, ws, rfl, _, ht, r⟩ := one_dat h
  have e := ints_dat r
  subst e
  exact ⟨t, ns, rfl, SqL.of ht, k _ H (Same.refl H) rfl⟩⟩
/-- a built-in class, as a value -/
theorem ev_cls {x : Str} {T : String} (hm : X.mg x = none) (hv : bootBuiltins x = some (.type T)) (hg : Gl X x := by rfl) (hn : x ≠ "__name__" := by decide) (hdb : (x == ("__debug__" : Str)) = false := by decide) : Ev X S (.Name x pos) G W (.ty T) W := fun _ H _ _ w _ q =>
  ⟨_, pe_bltn hg hm hv (v := .ty T) rfl hn hdb, q _ H (Kept.refl H) w rfl⟩
/-- the class's name -/
def tyD : D → String
  | .non => "NoneType"
  | .bl _ => "bool"
  | .int _ => "int"
  | .str _ => "str"
  | .tup _ => "tuple"
  | .lst _ => "list"
  | .dct => "dict"
  | .ref _ => ""
  | .ty _ => ""
theorem ty_dat {K : PySem.W.Frag} {H : Hp} {v : V} : ∀ {d : D}, tyD d ≠ "" → Dat S H v d → TyX K H v (.type (tyD d))
  | .non, _, h => by
    cases (show _ = V.non from h)
    exact .base .non
  | .bl _, _, h => by
    cases (show _ = V.bl _ from h)
    exact .base (.bl _)
  | .int _, _, h => by
    cases (show _ = V.int _ from h)
    exact .base (.int _)
  | .str _, _, h => by
    cases (show _ = V.str _ from h)
    exact .base (.str _)
  | .tup _, _, h => by
    obtain ⟨a, vs, rfl, _, q, _⟩ := h
    exact .base (.tup q)
  | .lst _, _, h => by
    obtain ⟨a, vs, rfl, _, q, _⟩ := h
    exact .base (.lst q)
  | .dct, _, h => by
    obtain ⟨a, rfl, _, q⟩ := h
    exact .base (.dK q)
  | .ref _, n, _ => absurd rfl n
  | .ty _, n, _ => absurd rfl n
theorem co_isi {T : String} {b : Bool} (hn : tyD d ≠ "") (h : ∀ K, PySem.W.kitOne K (.type (tyD d)) (.type T) = some b) : CalO X (.builtin "isinstance") [d, .ty T] (.bl b) := ⟨_, call_isi, fun S H vs _ hd Q k => by
  obtain ⟨u, v, rfl, p, q⟩ := two_dat hd
  cases (show v = .ty T from q)
  exact ⟨u, .ty T, _, _, b, rfl, .ty T, ty_dat hn p, h _, k _ H (Same.refl H) rfl⟩⟩
end
end Ink
/-! Ink2 -/
/-! The D-layer: defs and their promises, statements, loops, errors. -/
namespace Ink
open PySem PySem.Spec PyProof.Rows L2

/-! ### promises about data -/
inductive Res where
  | ok (d : D) | exc (c : Addr)
structure Bs where
  P : Program
  w : World
  K : PySem.W.Frag
  mg : Str → Option Value
  base : Heap
def bsOf (X : Cx) : Bs := ⟨X.prog, X.w, X.K, X.mg, X.base⟩
def Post (S : Addr → Prop) (H : Hp) (r : Res) (Q : VK) (E : XK) : Prop :=
  match r with
  | .ok d => ∀ v H', Same H H' → Dat S H' v d → Q v H'
  | .exc c => ∀ H', Same H H' → E (.ref c) none H'
/-- a def that changes nothing: from data of such a kind such an end -/
def spR (n : Nat) (R : List D → Res → Prop) : Sp := fun vs H Q E => ∃ S ds r, SOk S H ∧ DatL S H vs ds ∧ ds.length = n ∧ R ds r ∧ Post S H r Q E
abbrev CXN (B : Bs) : CXT := L2N.CX B.P B.w
/-- a def of the module that keeps a promise -/
def Kd (B : Bs) (x : Str) (k : Nat) (sp : Sp) : Prop := ∃ f fd ps, FnOk B.P B.w B.K B.mg B.base (CXN B) k f fd ps sp ∧ B.mg x = some (.ref f) ∧ PySem.W.keepIn B.K (.ref f) = true ∧ Binds B.K fd ps []
abbrev Kn (B : Bs) (x : Str) (k n : Nat) (R : List D → Res → Prop) : Prop := Kd B x k (spR n R)
abbrev cx (B : Bs) (N : List Str) (x : Str) (st : Stmt) (f : Addr) (cdv : Value) (A : Around) (outer : List Env) (s : Shared) (H : Hp) (E : XK) : Cx := cxOf (CXN B) B.P B.w B.K B.mg B.base N x (defScope st) f cdv A outer s H E

/-! ### statements -/
def Blk (X : Cx) (S : Addr → Prop) (sts : List Stmt) (E : Ends) (G : Gm) (W : As) : Prop := ∀ σ H, Ty S H σ G → SOk S H → W H → WB X sts E σ H
def Ends.on (E : Ends) (X : Cx) (rest : List Stmt) : Ends := { E with nx := fun σ H => WB X rest E σ H }

theorem tk_cx {B : Bs} {N : List Str} {x : Str} {st : Stmt} {f : Addr} {cdv : Value} {A : Around} {outer : List Env} {s : Shared} {H : Hp} {E : XK} : Tk (cx B N x st f cdv A outer s H E) (fun c H' => E (.ref c) none H') :=
  ⟨fun cls d _ H => E cls d H, L2N.takes_of rfl rfl rfl rfl, fun _ _ _ _ h => h⟩
/-- a def of the text keeps a promise: by its body -/
theorem kd_of {B : Bs} {x : Str} {st : Stmt} {f : Addr} {fd : FuncData} {N ps : List Str} {k : Nat} {sp : Sp} (F : Fun B.K x x st f fd) (m : B.mg x = some (.ref f)) (hb : Binds B.K fd ps []) (sc : FnScope N ps (defScope st)) (len : ∀ vs H Q E, sp vs H Q E → vs.length = ps.length)
    (body : ∀ (cdv : Value) (A : Around) (outer : List Env) (s : Shared) (H : Hp) (vs : List V) (Q : VK) (E : XK), Room k (cx B N x st f cdv A outer s H E).A → sp vs H Q E → WB (cx B N x st f cdv A outer s H E) (defBody st) { nx := fun _ H' => Q .non H', rt := Q } (L2.start N vs) H) : Kd B x (k + 1) sp := by
  obtain ⟨oc, od, kV, doc, pm, an, cdv, ct, osl, e, lk, hcd⟩ := F.ex
  refine ⟨f, fd, ps, ?_, m, F.kp, hb⟩
  subst e
  exact fn_of lk hcd sc len fun A outer s H vs Q E hr hsp => body cdv A outer s H vs Q E hr hsp
theorem kn_of {B : Bs} {x : Str} {st : Stmt} {f : Addr} {fd : FuncData} {N ps : List Str} {k n : Nat} {R : List D → Res → Prop} (F : Fun B.K x x st f fd) (m : B.mg x = some (.ref f)) (hb : Binds B.K fd ps []) (sc : FnScope N ps (defScope st)) (hn : n = ps.length) (hN : n ≤ N.length)
    (body : ∀ (cdv : Value) (A : Around) (outer : List Env) (s : Shared) (H : Hp) (Q : VK) (E : XK) (S : Addr → Prop) (ds : List D) (r : Res), Room k (cx B N x st f cdv A outer s H E).A → ds.length = n → R ds r → Post S H r Q E →
      Blk (cx B N x st f cdv A outer s H E) S (defBody st) { nx := fun _ H' => Q .non H', rt := Q } (ds.map some ++ List.replicate (N.length - n) none) (Same H)) : Kn B x (k + 1) n R := by
  refine kd_of F m hb sc (fun vs H Q E h => ?_) fun cdv A outer s H vs Q E hr h => ?_
  · obtain ⟨S, ds, r, _, hd, hl, _⟩ := h
    rw [hd.len, hl]
    exact hn
  · obtain ⟨S, ds, r, so, hd, hl, hR, hp⟩ := h
    have t := ty_start (N := N) hd (by rw [hl]; exact hN)
    rw [hl] at t
    exact body cdv A outer s H Q E S ds r hr hl hR hp _ H t so (Same.refl H)

theorem stb_same {H : Hp} : Stb (Same H) := fun _ _ a b => a.trans b
theorem stb_true : Stb fun _ => True := fun _ _ _ _ => trivial
theorem stb_and {W W' : As} (a : Stb W) (b : Stb W') : Stb fun H => W H ∧ W' H := fun H H' h e => ⟨a H H' h.1 e, b H H' h.2 e⟩
theorem stb_at {a : Addr} {o : HO} : Stb fun H => H a = some o := fun _ _ h e => e _ _ h

section
variable {X : Cx} {S : Addr → Prop} {G G' : Gm} {W W1 W2 W3 W' : As} {pos pos' : Pos} {a b e : Expr} {es : List Expr} {d da db : D} {ds l : List D} {rest body orelse : List Stmt} {E : Ends} {r : Res} {Q : VK} {EE : XK} {H0 : Hp}

/-! ### calls -/
theorem pass_f {σ : L2.St} : PassesAt (L2N.CX X.prog X.w) X σ (fun _ _ _ => False) := fun _ _ _ _ _ _ h => by
  obtain ⟨_, _, _, _, _, _, _, _, _, _, _, _, z⟩ := h
  exact z.elim
theorem pass_fa : Passes (L2N.CX X.prog X.w) X (fun _ _ _ => False) := fun _ _ _ _ _ _ _ h => by
  obtain ⟨_, _, _, _, _, _, _, _, _, _, _, _, z⟩ := h
  exact z.elim
abbrev wish (Ex : Addr → Hp → Prop) : XK := fun cls d H' => ∃ c, cls = .ref c ∧ d = none ∧ Ex c H'
theorem pass_x {Ex : Addr → Hp → Prop} (tk : Tk X Ex) : Passes (L2N.CX X.prog X.w) X (wish Ex) := fun _ σ _ _ e s' I c => by
  obtain ⟨Wx, t, h⟩ := tk
  refine t e s' (L2N.XE.of_call I (fun cls d H' z => ?_) c)
  obtain ⟨c, rfl, rfl, q⟩ := z
  exact h c σ H' I.len q
/-- f(..), f a def that changes nothing -/
theorem ev_call {x : Str} {k j n : Nat} {R : List D → Res → Prop} {p : Pos} (h : Kn (bsOf X) x k n R) (hr : Room j X.A) (ha : EvA X S (e :: es) G W ds W1) (hs : Stb W1) (hR : R ds (.ok d)) (hn : ds.length = n := by rfl) (hj : k ≤ j := by decide) (hg : Gl X x := by rfl)
    (hdb : (x == ("__debug__" : Str)) = false := by decide) (he : starEach (e :: es) X.env = (false, eval e X.env) :: starEach es X.env := by rfl) (hpl : (backTo pos (starEach es X.env)).any (·.1) = false := by rfl) : Ev X S (.Call (.Name x p) (e :: es) [] pos) G W d W1 := fun σ H ty so w Q q => by
  obtain ⟨f, fd, ps, F, hm, hk, hb⟩ := h
  exact ⟨_, pe_callS F (hr.mono hj) hg hm hk hb (fun σ => pass_f) wa_pa hdb he hpl, ha σ H ty so w _ fun vs H1 k1 w1 p1 => ⟨S, ds, .ok d, so.kept k1, p1, hn, hR, fun v H2 e p2 => q v H2 (k1.trans (Same.kept e)) (hs _ _ w1 e) p2⟩⟩
theorem evx_call {x : Str} {k j n : Nat} {R : List D → Res → Prop} {p : Pos} {c : Addr} (h : Kn (bsOf X) x k n R) (hr : Room j X.A) (ha : EvA X S (e :: es) G W ds W1) (hs : Stb W1) (hR : R ds (.exc c)) (hn : ds.length = n := by rfl) (hj : k ≤ j := by decide) (hg : Gl X x := by rfl)
    (hdb : (x == ("__debug__" : Str)) = false := by decide) (he : starEach (e :: es) X.env = (false, eval e X.env) :: starEach es X.env := by rfl) (hpl : (backTo pos (starEach es X.env)).any (·.1) = false := by rfl) : EvX X S (.Call (.Name x p) (e :: es) [] pos) G W c W1 := fun σ H ty so w Ex tk q Q => by
  obtain ⟨f, fd, ps, F, hm, hk, hb⟩ := h
  exact ⟨_, pe_callS F (hr.mono hj) hg hm hk hb (fun σ pins H s e s' I c => pass_x tk pins σ H s e s' I c) (E := fun _ => wish Ex) wa_pa hdb he hpl, ha σ H ty so w _ fun vs H1 k1 w1 p1 => ⟨S, ds, .exc c, so.kept k1, p1, hn, hR, fun H2 e => ⟨c, rfl, rfl, q H2 (k1.trans (Same.kept e)) (hs _ _ w1 e)⟩⟩⟩

/-! ### fields -/
theorem ev_fld {p C : Addr} {f : Str} (he : Ev X S e G W (.ref p) W1) (cl : Cls X.K C) (nf : NoAttr X.K C f) (hf : ∀ H, SOk S H → W1 H → ∃ dx fs v, H p = some (.ins C dx fs) ∧ fs.lookup f = some v ∧ Dat S H v d) (hb : attributeBase e f X.env (eval e X.env) = eval e X.env := by rfl) :
    Ev X S (.Attribute e f pos) G W d W1 := fun σ H ty so w Q q => ⟨_, pe_fld we_pe hb, he σ H ty so w _ fun v H1 k1 w1 p1 => by
  obtain ⟨dx, fs, y, h1, h2, h3⟩ := hf H1 (so.kept k1) w1
  cases (show v = .ref p from p1)
  exact ⟨p, C, dx, fs, y, rfl, h1, cl, nf, h2, q y H1 k1 w1 h3⟩⟩

/-! ### statements -/
theorem blk_ret (h : Ev X S e G W d W1) (k : ∀ v H', SOk S H' → W1 H' → Dat S H' v d → E.rt v H') : Blk X S [.Return (some e) pos] E G W := fun σ H ty so w =>
  ⟨_, pss_one (ps_ret we_pe), h σ H ty so w _ fun v H1 k1 w1 p1 => k v H1 (so.kept k1) w1 p1⟩
/-- the end of a def that changes nothing -/
theorem blk_retR {nx : L2.St → Hp → Prop} {bk ct : L2.St → Hp → Prop} (hp : Post S H0 r Q EE) (h : Ev X S e G W d W1) (er : r = .ok d) (hw : ∀ H', W1 H' → Same H0 H') : Blk X S [.Return (some e) pos] { nx := nx, rt := Q, bk := bk, ct := ct } G W := blk_ret h fun v H' _ w p => by
  subst er
  exact hp v H' (hw H' w) p
theorem blk_set (i : Nat) {x : Str} (h : Ev X S e G W d W1) (k : Blk X S rest E (G.set i (some d)) W1) (hN : X.N.Nodup) (hi : X.N[i]? = some x := by rfl) (hx : Loc X.env.scope x := by first | exact Or.inl rfl | exact Or.inr rfl) (hs : swapsWith e (some (.Name x pos')) pos.line X.env = pure false := by rfl)
    (hf : X.fn x = true ∨ X.env.scope.names.lookup x = some .local := by first | exact .inl rfl | exact .inr rfl) : Blk X S (.Assign [.Name x pos'] e pos :: rest) E G W := fun σ H ty so w =>
  ⟨_, pss_cons (ps_set hN hi hx we_pe hs hf) wb_pss, h σ H ty so w _ fun v H1 k1 w1 p1 => k _ H1 ((ty.kept k1).set i p1) (so.kept k1) w1⟩
theorem blk_expr (h : Ev X S e G W d W1) (k : Blk X S rest E G W1) (hs : swapsWith e none pos.line X.env = pure false := by rfl) : Blk X S (.Expr e pos :: rest) E G W := fun σ H ty so w =>
  ⟨_, pss_cons (ps_expr we_pe hs) wb_pss, h σ H ty so w _ fun v H1 k1 w1 p1 => k _ H1 (ty.kept k1) (so.kept k1) w1⟩
theorem blk_exprX {Ex : Addr → Hp → Prop} {c : Addr} (tk : Tk X Ex) (h : EvX X S e G W c W1) (k : ∀ H, SOk S H → W1 H → Ex c H) (hs : swapsWith e none pos.line X.env = pure false := by rfl) : Blk X S (.Expr e pos :: rest) E G W := fun σ H ty so w =>
  ⟨_, pss_cons (ps_expr we_pe hs) pss_never, h σ H ty so w Ex tk (fun H' k1 w1 => k H' (so.kept k1) w1) _⟩
theorem blk_setX (i : Nat) {x : Str} {Ex : Addr → Hp → Prop} {c : Addr} (tk : Tk X Ex) (h : EvX X S e G W c W1) (k : ∀ H, SOk S H → W1 H → Ex c H) (hN : X.N.Nodup) (hi : X.N[i]? = some x := by rfl) (hx : Loc X.env.scope x := by first | exact Or.inl rfl | exact Or.inr rfl) (hs : swapsWith e (some (.Name x pos')) pos.line X.env = pure false := by rfl)
    (hf : X.fn x = true ∨ X.env.scope.names.lookup x = some .local := by first | exact .inl rfl | exact .inr rfl) : Blk X S (.Assign [.Name x pos'] e pos :: rest) E G W := fun σ H ty so w =>
  ⟨_, pss_cons (ps_set hN hi hx we_pe hs hf) pss_never, h σ H ty so w Ex tk (fun H' k1 w1 => k H' (so.kept k1) w1) _⟩
theorem blk_if {t : Expr} {c : Bool} (h : EvT X S t G W c W1) (h1 : c = true → Blk X S body (Ends.on E X rest) G W1) (h2 : c = false → Blk X S orelse (Ends.on E X rest) G W1) : Blk X S (.If t body orelse pos :: rest) E G W := fun σ H ty so w => by
  refine ⟨_, pss_cons (ps_if wt_pt wb_pss wb_pss) wb_pss, h σ H ty so w _ fun H1 k1 w1 => ?_⟩
  cases c with
  | true => exact iteT (h1 rfl σ H1 (ty.kept k1) (so.kept k1) w1)
  | false => exact iteF (h2 rfl σ H1 (ty.kept k1) (so.kept k1) w1)
/-- the last if of a block -/
theorem blk_if1 {t : Expr} {c : Bool} (h : EvT X S t G W c W1) (h1 : c = true → Blk X S body E G W1) (h2 : c = false → Blk X S orelse E G W1) : Blk X S [.If t body orelse pos] E G W := fun σ H ty so w => by
  refine ⟨_, pss_one (ps_if wt_pt wb_pss wb_pss), h σ H ty so w _ fun H1 k1 w1 => ?_⟩
  cases c with
  | true => exact iteT (h1 rfl σ H1 (ty.kept k1) (so.kept k1) w1)
  | false => exact iteF (h2 rfl σ H1 (ty.kept k1) (so.kept k1) w1)
theorem blk_nil (k : ∀ σ H, Ty S H σ G → SOk S H → W H → E.nx σ H) : Blk X S [] E G W := fun σ H ty so w => ⟨_, pss_nil, k σ H ty so w⟩
theorem blk_on {Y : Cx} (k : Blk Y S rest E G W) : Blk X S [] (Ends.on E Y rest) G W := blk_nil fun σ H ty so w => k σ H ty so w
/-- the frame's slots as they are known, the assertion: weakened -/
theorem Blk.weak (k : Blk X S rest E G' W1) (hl : G'.length = G.length) (hg : ∀ (i : Nat) (d : D), G'[i]? = some (some d) → G[i]? = some (some d)) (hw : ∀ H, W H → W1 H) : Blk X S rest E G W := fun σ H ty so w => k σ H (ty.drop hl hg) so (hw H w)
theorem Blk.imp (k : Blk X S rest E G W1) (hw : ∀ H, W H → W1 H) : Blk X S rest E G W := fun σ H ty so w => k σ H ty so (hw H w)

/-! ### errors -/
/-- an own error class, as the top has made it -/
structure Xc (B : Bs) (x : Str) (C : Addr) : Prop where
  g : B.mg x = some (.ref C)
  q : PySem.W.excIn B.K C [.type "ValueError", .type "Exception", .type "BaseException", .type "object"] "ValueError.__new__" = true
  k : PySem.W.keepIn B.K (.ref C) = true
  s : PySem.W.subIn B.K (.ref C) (.type "BaseException") = some true
  t : PySem.W.typeIn B.K (.ref C) = some (.type "type")
theorem blk_raise {Ex : Addr → Hp → Prop} {x m : Str} {C : Addr} {j : Nat} {p p2 pos2 : Pos} (tk : Tk X Ex) (c : Xc (bsOf X) x C) (k : ∀ H, SOk S H → W H → Ex C H) (hc : X.calm = true := by rfl) (hg : Gl X x := by rfl) (hdb : (x == ("__debug__" : Str)) = false := by decide) :
    Blk X S (.Raise (some (.Call (.Name x p) [.Constant (.str m) j p2] [] pos)) none pos2 :: rest) E G W := fun σ H ty so w => by
  obtain ⟨Wx, t, h⟩ := tk
  refine ⟨fun _ _ H => Ex C H, ⟨fun pins s σ H D I z => ?_⟩, k H so w⟩
  exact (pss_cons (L2N.ps_raise hc t (L2N.pmk_own PySem.F.excBase_ValueError c.q c.g c.k (raises_own c.s c.t) hg hdb)) (pss_never (sts := rest))).run pins s σ H D I (h C σ H I.len z)

/-! ### names for a tuple's items -/
theorem pg_two {x y : Str} {i j : Nat} {px py pt : Pos} {kt} (hN : X.N.Nodup) (hi : X.N[i]? = some x) (hj : X.N[j]? = some y) (hx : X.env.scope.names.lookup x = some .local) (hy : X.env.scope.names.lookup y = some .local) (hc : X.calm = true) :
    PG X (.Tuple [.Name x px, .Name y py] kt pt) (gTup X.K 2 (gCons (gName i) (gCons (gName j) gNil))) :=
  pg_tup hc (pgs_cons (pg_name hN hi (Or.inl hx) (.inr hx)) (pgs_cons (pg_name hN hj (Or.inl hy) (.inr hy)) pgs_nil))
theorem two_set {K : PySem.W.Frag} {σ : L2.St} {H : Hp} {v : V} {i j : Nat} {Qg : L2.St → Hp → Prop} (h : Dat S H v (.tup [da, db])) (k : ∀ u w, Dat S H u da → Dat S H w db → Qg ((σ.set i (some u)).set j (some w)) H) : gTup K 2 (gCons (gName i) (gCons (gName j) gNil)) v σ H Qg := by
  obtain ⟨t, vs, rfl, _, ht, r⟩ := h
  obtain ⟨u, w, rfl, p, q⟩ := two_dat r
  exact ⟨t, [u, w], rfl, SqT.of ht, rfl, u, [w], rfl, w, [], rfl, rfl, k u w p q⟩
theorem blk_set2 (i j : Nat) {x y : Str} {px py pt : Pos} {kt} (h : Ev X S e G W (.tup [da, db]) W1) (k : Blk X S rest E ((G.set i (some da)).set j (some db)) W1) (hN : X.N.Nodup) (hi : X.N[i]? = some x := by rfl) (hj : X.N[j]? = some y := by rfl) (hx : X.env.scope.names.lookup x = some .local := by rfl) (hy : X.env.scope.names.lookup y = some .local := by rfl)
    (hc : X.calm = true := by rfl) (hs : swapsWithSole [.Tuple [.Name x px, .Name y py] kt pt] e pos.line X.env = pure false := by rfl) (hw : swappedStores [.Tuple [.Name x px, .Name y py] kt pt] e X.env = pure none := by rfl)
    (h1 : (assignEach [.Tuple [.Name x px, .Name y py] kt pt] X.env).map (·.2) = [assign (.Tuple [.Name x px, .Name y py] kt pt) X.env] := by rfl) : Blk X S (.Assign [.Tuple [.Name x px, .Name y py] kt pt] e pos :: rest) E G W := fun σ H ty so w =>
  ⟨_, pss_cons (ps_asg we_pe (pg_two hN hi hj hx hy hc) hs hw h1) wb_pss, h σ H ty so w _ fun v H1 k1 w1 p1 => two_set p1 fun u t p q => k _ H1 (((ty.kept k1).set i p).set j q) (so.kept k1) w1⟩

/-! ### loops over data -/
/-- what a loop's turn is to reach, what the loop is to reach -/
def At (S : Addr → Prop) (G : Gm) (W : As) : L2.St → Hp → Prop := fun σ H => Ty S H σ G ∧ SOk S H ∧ W H
abbrev withK (S : Addr → Prop) (W : As) (Hs : Hp) : As := fun H => W H ∧ Kept S Hs H
theorem stb_kept {Hs : Hp} : Stb fun H => Kept S Hs H := fun _ _ a e => a.trans (Same.kept e)
theorem stb_withK {Hs : Hp} (h : Stb W) : Stb (withK S W Hs) := fun _ _ a e => ⟨h _ _ a.1 e, a.2.trans (Same.kept e)⟩
/-- the loop's list stays where only S changes -/
theorem blk_forG {tg : Expr} {g : TG} {it : Expr} (Gi : Nat → Gm) (Wi : Nat → As) (h : Ev X S it G W (.lst ds) W1) (h0 : ∀ σ H, Ty S H σ G → SOk S H → W1 H → Ty S H σ (Gi 0) ∧ Wi 0 H) (hg : PG X tg g)
    (turn : ∀ (i : Nat) (d : D) (Hs : Hp), ds[i]? = some d → ∀ (v : V) (σ : L2.St) (H : Hp), Ty S H σ (Gi i) → SOk S H → Wi i H → Kept S Hs H → Dat S H v d →
      g v σ H fun σ2 H2 => WB X body { E with nx := At S (Gi (i + 1)) (withK S (Wi (i + 1)) Hs), ct := At S (Gi (i + 1)) (withK S (Wi (i + 1)) Hs), bk := fun σ H => WB X rest E σ H } σ2 H2)
    (after : Blk X S rest E (Gi ds.length) (Wi ds.length)) (hp : PassesOwn (model X.prog X.w) X.A X.env X.xe) (hc : X.calm = true) (hs : ∀ x, foldedSetIterable it X.env x = pure x) :
    Blk X S (.For tg it body [] pos :: rest) E G W := fun σ H ty so w => by
  refine ⟨_, pss_cons (ps_for hp hc (pi_list we_pe) hg wb_pss hs) wb_pss, h σ H ty so w _ fun v H1 k1 w1 p1 => ?_⟩
  obtain ⟨a, vs, rfl, na, ha, hd⟩ := p1
  refine ⟨a, rfl, ⟨vs, SqL.of ha⟩, for_list (K := X.K) (a := a) (xs := vs) (fun i σ' H' => Ty S H' σ' (Gi i) ∧ SOk S H' ∧ Wi i H' ∧ Kept S H1 H') ?_ (fun i σ' H' _ p => SqL.of (p.2.2.2.1 a _ ha na)) ?_ ?_⟩
  · exact ⟨(h0 σ H1 (ty.kept k1) (so.kept k1) w1).1, so.kept k1, (h0 σ H1 (ty.kept k1) (so.kept k1) w1).2, Kept.refl H1⟩
  · rintro i x σ' H' hx ⟨t', s', w', kk⟩
    obtain ⟨d, e, p⟩ := hd.getV hx
    have z := turn i d H1 e x σ' H' t' s' w' kk (p.kept kk)
    exact (show g x σ' H' fun σ2 H2 => WB X body { nx := fun σ H => Ty S H σ (Gi (i + 1)) ∧ SOk S H ∧ Wi (i + 1) H ∧ Kept S H1 H, rt := E.rt, bk := fun σ H => WB X rest E σ H, ct := fun σ H => Ty S H σ (Gi (i + 1)) ∧ SOk S H ∧ Wi (i + 1) H ∧ Kept S H1 H } σ2 H2 from z)
  · rintro σ' H' ⟨t', s', w', kk⟩
    rw [hd.len] at t' w'
    exact after σ' H' t' s' w'
/-- for x in a list -/
theorem blk_for (j : Nat) {x : Str} {it : Expr} {px : Pos} (Gi : Nat → Gm) (Wi : Nat → As) (h : Ev X S it G W (.lst ds) W1) (h0 : ∀ σ H, Ty S H σ G → SOk S H → W1 H → Ty S H σ (Gi 0) ∧ Wi 0 H)
    (turn : ∀ (i : Nat) (d : D) (Hs : Hp), ds[i]? = some d → Blk X S body { E with nx := At S (Gi (i + 1)) (withK S (Wi (i + 1)) Hs), ct := At S (Gi (i + 1)) (withK S (Wi (i + 1)) Hs), bk := fun σ H => WB X rest E σ H } ((Gi i).set j (some d)) (withK S (Wi i) Hs))
    (after : Blk X S rest E (Gi ds.length) (Wi ds.length)) (hN : X.N.Nodup) (hp : PassesOwn (model X.prog X.w) X.A X.env X.xe) (hj : X.N[j]? = some x := by rfl) (hx : Loc X.env.scope x := by first | exact Or.inl rfl | exact Or.inr rfl)
    (hf : X.fn x = true ∨ X.env.scope.names.lookup x = some .local := by first | exact .inl rfl | exact .inr rfl) (hc : X.calm = true := by rfl) (hs : ∀ x, foldedSetIterable it X.env x = pure x := by intro _; rfl) :
    Blk X S (.For (.Name x px) it body [] pos :: rest) E G W :=
  blk_forG Gi Wi h h0 (pg_name hN hj hx hf) (fun i d Hs e v σ H t s w k p => turn i d Hs e _ H (t.set j p) s ⟨w, k⟩) after hp hc hs
/-- for x, y in a list of pairs -/
theorem blk_for2 (j l : Nat) {x y : Str} {it : Expr} {px py pt : Pos} {kt} {ps : List (D × D)} (Gi : Nat → Gm) (Wi : Nat → As) (h : Ev X S it G W (.lst (ps.map fun p => .tup [p.1, p.2])) W1) (h0 : ∀ σ H, Ty S H σ G → SOk S H → W1 H → Ty S H σ (Gi 0) ∧ Wi 0 H)
    (turn : ∀ (i : Nat) (a b : D) (Hs : Hp), ps[i]? = some (a, b) → Blk X S body { E with nx := At S (Gi (i + 1)) (withK S (Wi (i + 1)) Hs), ct := At S (Gi (i + 1)) (withK S (Wi (i + 1)) Hs), bk := fun σ H => WB X rest E σ H } (((Gi i).set j (some a)).set l (some b)) (withK S (Wi i) Hs))
    (after : Blk X S rest E (Gi ps.length) (Wi ps.length)) (hN : X.N.Nodup) (hp : PassesOwn (model X.prog X.w) X.A X.env X.xe) (hj : X.N[j]? = some x := by rfl) (hl : X.N[l]? = some y := by rfl) (hx : X.env.scope.names.lookup x = some .local := by rfl) (hy : X.env.scope.names.lookup y = some .local := by rfl)
    (hc : X.calm = true := by rfl) (hs : ∀ x, foldedSetIterable it X.env x = pure x := by intro _; rfl) :
    Blk X S (.For (.Tuple [.Name x px, .Name y py] kt pt) it body [] pos :: rest) E G W := by
  refine blk_forG Gi Wi h h0 (pg_two hN hj hl hx hy hc) (fun i d Hs e v σ H t s w k p => ?_) (by rw [List.length_map]; exact after) hp hc hs
  rw [List.getElem?_map] at e
  cases q : ps[i]? with
  | none =>
    rw [q] at e
    cases e
  | some c =>
    rw [q] at e
    have e2 : D.tup [c.1, c.2] = d := Option.some.inj e
    subst e2
    exact two_set p fun u z pu pz => turn i c.1 c.2 Hs q _ H ((t.set j pu).set l pz) s ⟨w, k⟩
/-- for x in range(a, b) -/
theorem blk_forR (j : Nat) {x : Str} {lo hi : Expr} {px pr pp : Pos} {i0 i1 : Int} (Gi : Nat → Gm) (Wi : Nat → As) (h : EvA X S [lo, hi] G W [.int i0, .int i1] W1) (h0 : ∀ σ H, Ty S H σ G → SOk S H → W1 H → Ty S H σ (Gi 0) ∧ Wi 0 H) (hb : -1000 ≤ i0 ∧ i0 ≤ 1000 ∧ -1000 ≤ i1 ∧ i1 ≤ 1000)
    (turn : ∀ i : Nat, i < (i1 - i0).toNat → Blk X S body { E with nx := At S (Gi (i + 1)) (Wi (i + 1)), ct := At S (Gi (i + 1)) (Wi (i + 1)), bk := fun σ H => WB X rest E σ H } ((Gi i).set j (some (.int (i0 + i)))) (Wi i))
    (after : Blk X S rest E (Gi (i1 - i0).toNat) (Wi (i1 - i0).toNat)) (hN : X.N.Nodup) (hp : PassesOwn (model X.prog X.w) X.A X.env X.xe) (hm : X.mg "range" = none) (hg : Gl X "range" := by rfl) (hj : X.N[j]? = some x := by rfl) (hx : Loc X.env.scope x := by first | exact Or.inl rfl | exact Or.inr rfl)
    (hf : X.fn x = true ∨ X.env.scope.names.lookup x = some .local := by first | exact .inl rfl | exact .inr rfl) (hc : X.calm = true := by rfl) (hs : ∀ x, foldedSetIterable (.Call (.Name "range" pr) [lo, hi] [] pp) X.env x = pure x := by intro _; rfl)
    (q1 : starEach [lo, hi] X.env = [(false, eval lo X.env), (false, eval hi X.env)] := by rfl) (q2 : starEach [hi] X.env = [(false, eval hi X.env)] := by rfl) :
    Blk X S (.For (.Name x px) (.Call (.Name "range" pr) [lo, hi] [] pp) body [] pos :: rest) E G W := fun σ H ty so w => by
  refine ⟨_, pss_cons (ps_for hp hc (pi_range2 hg hm wa_pa q1 q2) (pg_name hN hj hx hf) wb_pss hs) wb_pss, h σ H ty so w _ fun vs H1 k1 w1 p1 => ?_⟩
  obtain ⟨u, v, rfl, pu, pv⟩ := two_dat p1
  cases (show u = .int i0 from pu)
  cases (show v = .int i1 from pv)
  refine ⟨i0, i1, rfl, by omega, for_range (lo := i0) (n := (i1 - i0).toNat) (fun i => At S (Gi i) (Wi i)) ?_ ?_ ?_⟩
  · exact ⟨(h0 σ H1 (ty.kept k1) (so.kept k1) w1).1, so.kept k1, (h0 σ H1 (ty.kept k1) (so.kept k1) w1).2⟩
  · rintro i σ' H' hi ⟨t', s', w'⟩
    exact turn i hi _ H' (t'.set j rfl) s' w'
  · rintro σ' H' ⟨t', s', w'⟩
    exact after σ' H' t' s' w'
/-- while -/
theorem blk_while {α : Type} {t : Expr} (Gi : α → Gm) (Wi : α → As) (μ : α → Nat) (a0 : α) (h0 : ∀ σ H, Ty S H σ G → SOk S H → W H → Ty S H σ (Gi a0) ∧ Wi a0 H)
    (turn : ∀ x : α, ∃ c W2, EvT X S t (Gi x) (Wi x) c W2 ∧ (c = true → ∃ y : α, μ y < μ x ∧ Blk X S body { E with nx := At S (Gi y) (Wi y), ct := At S (Gi y) (Wi y), bk := fun σ H => WB X rest E σ H } (Gi x) W2) ∧ (c = false → Blk X S rest E (Gi x) W2))
    (hp : PassesOwn (model X.prog X.w) X.A X.env X.xe) : Blk X S (.While t body [] pos :: rest) E G W := fun σ H ty so w => by
  refine ⟨_, pss_cons (ps_while hp wt_pt wb_pss) wb_pss, fun m σ' H' => ∃ x : α, m = μ x ∧ At S (Gi x) (Wi x) σ' H', ⟨μ a0, a0, rfl, (h0 σ H ty so w).1, so, (h0 σ H ty so w).2⟩, ?_⟩
  rintro m σ' H' ⟨x, rfl, t', s', w'⟩
  obtain ⟨c, W2, hc, h1, h2⟩ := turn x
  refine hc σ' H' t' s' w' _ fun H2 k2 w2 => ?_
  cases c with
  | true =>
    obtain ⟨y, hy, hb⟩ := h1 rfl
    refine iteT ⟨At S (Gi y) (Wi y), fun σ3 H3 p => ⟨μ y, hy, y, rfl, p⟩, ?_⟩
    exact hb σ' H2 (t'.kept k2) (s'.kept k2) w2
  | false =>
    refine iteF ?_
    exact h2 rfl σ' H2 (t'.kept k2) (s'.kept k2) w2
/-- what stays where only S changes may be carried along -/
def Frm (S : Addr → Prop) (F : As) : Prop := ∀ H H', F H → Kept S H H' → F H'
theorem frm_kept {Hs : Hp} : Frm S fun H => Kept S Hs H := fun _ _ a k => a.trans k
theorem Ev.frm {F : As} (h : Ev X S e G W d W1) (hF : Frm S F) : Ev X S e G (fun H => W H ∧ F H) d (fun H => W1 H ∧ F H) := fun σ H ty so w Q q => h σ H ty so w.1 Q fun v H' k w' p => q v H' k ⟨w', hF H H' w.2 k⟩ p
theorem EvT.frm {F : As} {c : Bool} (h : EvT X S e G W c W1) (hF : Frm S F) : EvT X S e G (fun H => W H ∧ F H) c (fun H => W1 H ∧ F H) := fun σ H ty so w Q q => h σ H ty so w.1 Q fun H' k w' => q H' k ⟨w', hF H H' w.2 k⟩
end
end Ink
/-! Ink3 -/
/-! The D-layer: list comprehensions. -/
namespace Ink
open PySem PySem.Spec PyProof.Rows L2

def wipeG (G : Gm) : List Nat → Gm
  | [] => G
  | v :: vs => (wipeG G vs).set v none
theorem ty_none {S : Addr → Prop} {H : Hp} {σ : L2.St} {G : Gm} (h : Ty S H σ G) (i : Nat) : Ty S H (σ.set i none) (G.set i none) := by
  refine ⟨by rw [List.length_set, List.length_set]; exact h.1, fun j c e => ?_⟩
  by_cases q : i = j
  · subst q
    rw [List.getElem?_set, if_pos rfl] at e
    split at e
    · cases e
    · cases e
  · rw [List.getElem?_set_ne q] at e
    obtain ⟨w, e2, z⟩ := h.2 j c e
    exact ⟨w, by rw [List.getElem?_set_ne q]; exact e2, z⟩
theorem ty_wipe {S : Addr → Prop} {H : Hp} {σ : L2.St} {G : Gm} (h : Ty S H σ G) : ∀ vs : List Nat, Ty S H (wipe σ vs) (wipeG G vs)
  | [] => h
  | v :: vs => ty_none (ty_wipe h vs) v
/-- what is walked: n items, the i-th one it i -/
def EvI (X : Cx) (S : Addr → Prop) (tg iter : Expr) (G : Gm) (W : As) (n : Nat) (it : Nat → D) (W' : As) : Prop :=
  ∀ σ H, Ty S H σ G → SOk S H → W H → ∀ R : It → Hp → Prop, (∀ H1 J Gd Y, Kept S H H1 → W' H1 → Walk J n Gd Y → (∀ H', Same H1 H' → Gd H') → (∀ (i : Nat) (H' : Hp) (x : V) (H'' : Hp) (S' : Addr → Prop), i < n → Same H1 H' → (∀ b, H1 b ≠ none → S' b → S b) → Y i H' x H'' → H'' = H' ∧ Dat S' H' x (it i)) → R J H1) → ∃ wi, PI X tg iter wi ∧ wi σ H R
section
variable {X : Cx} {S : Addr → Prop} {G : Gm} {W W1 W' : As} {tg iter : Expr} {ds : List D} {z : Str} {pos p : Pos}
theorem ei_lst (h : Ev X S iter G W (.lst ds) W1) : EvI X S tg iter G W ds.length (fun i => ds.getD i .non) W1 := fun σ H ty so w R k => by
  refine ⟨_, pi_list we_pe, h σ H ty so w _ fun v H1 k1 w1 p1 => ?_⟩
  obtain ⟨a, vs, rfl, na, ha, hd⟩ := p1
  have wk : Walk (Itl X.K a) vs.length (fun H => SqL X.K H a vs) (YAt vs) := walk_list
  rw [hd.len] at wk
  refine ⟨a, rfl, ⟨vs, SqL.of ha⟩, k H1 _ _ _ k1 w1 wk (fun H' e => SqL.of (e a _ ha)) fun i H' x H'' S' hi e off y => ⟨y.1, ?_⟩⟩
  obtain ⟨d, q, pd⟩ := (DatL.off off _ _ hd).getV y.2
  show Dat S' H' x (ds.getD i .non)
  rw [List.getD_eq_getElem?_getD, q]
  exact pd.kept (Same.kept e)
theorem ei_str (h : Ev X S iter G W (.str z) W1) : EvI X S tg iter G W z.cps.size (fun i => .str ⟨#[z.cps.toList.getD i 0]⟩) W1 := fun σ H ty so w R k => by
  refine ⟨_, pi_str we_pe, h σ H ty so w _ fun v H1 k1 w1 p1 => ?_⟩
  cases (show v = .str z from p1)
  refine ⟨z, rfl, k H1 _ _ _ k1 w1 (walk_str (z := z)) (fun _ _ => trivial) fun i H' x H'' S' hi e off y => ?_⟩
  obtain ⟨e1, c, hc, rfl⟩ := y
  refine ⟨e1, ?_⟩
  have e2 : z.cps.toList[i]? = some c := by rw [Array.getElem?_toList]; exact hc
  show V.str ⟨#[c]⟩ = V.str ⟨#[z.cps.toList.getD i 0]⟩
  rw [List.getD_eq_getElem?_getD, e2]
  rfl
theorem ei_rng1 {a : Expr} {n : Nat} (h : EvA X S [a] G W [.int (n : Int)] W1) (hn : n ≤ 100000) (hm : X.mg "range" = none) (hg : Gl X "range" := by rfl) (hs : starEach [a] X.env = [(false, eval a X.env)] := by rfl) : EvI X S tg (.Call (.Name "range" p) [a] [] pos) G W n (fun i => .int (i : Int)) W1 := fun σ H ty so w R k => by
  refine ⟨_, pi_range1 hg hm wa_pa hs, h σ H ty so w _ fun vs H1 k1 w1 p1 => ?_⟩
  obtain ⟨v, rfl, pv⟩ := one_dat p1
  cases (show v = .int (n : Int) from pv)
  have wk : Walk (Itr 0 n) n (fun _ => True) (YFn fun i => .int (0 + (i : Int))) := walk_range
  refine ⟨(n : Int), rfl, by omega, by omega, k H1 _ _ _ k1 w1 (by rw [Int.toNat_natCast]; exact wk) (fun _ _ => trivial) fun i H' x H'' S' hi e off (y : YFn (fun i => .int (0 + (i : Int))) i H' x H'') => ⟨y.1, ?_⟩⟩
  have e2 : x = V.int (0 + (i : Int)) := y.2
  show x = V.int (i : Int)
  rw [e2, Int.zero_add]
theorem ei_rng2 {a b : Expr} {i0 i1 : Int} (h : EvA X S [a, b] G W [.int i0, .int i1] W1) (hn : -100000 ≤ i0 ∧ i0 ≤ 100000 ∧ -100000 ≤ i1 ∧ i1 ≤ 100000) (hm : X.mg "range" = none) (hg : Gl X "range" := by rfl) (hs : starEach [a, b] X.env = [(false, eval a X.env), (false, eval b X.env)] := by rfl) (hs2 : starEach [b] X.env = [(false, eval b X.env)] := by rfl) :
    EvI X S tg (.Call (.Name "range" p) [a, b] [] pos) G W (i1 - i0).toNat (fun i => .int (i0 + (i : Int))) W1 := fun σ H ty so w R k => by
  refine ⟨_, pi_range2 hg hm wa_pa hs hs2, h σ H ty so w _ fun vs H1 k1 w1 p1 => ?_⟩
  obtain ⟨u, v, rfl, pu, pv⟩ := two_dat p1
  cases (show u = .int i0 from pu)
  cases (show v = .int i1 from pv)
  refine ⟨i0, i1, rfl, by omega, k H1 _ _ _ k1 w1 (walk_range (lo := i0) (n := (i1 - i0).toNat)) (fun _ _ => trivial) fun i H' x H'' S' hi e off (y : YFn (fun i => .int (i0 + (i : Int))) i H' x H'') => ⟨y.1, y.2⟩⟩
end
/-- a target: how it sets what is known -/
def Tgt (g : TG) (vs : List Nat) (ok : D → Prop) (gs : D → Gm → Gm) : Prop :=
  ∀ d, ok d → ∀ (S : Addr → Prop) (H : Hp) (v : V) (σ : L2.St) (G : Gm) (Q : L2.St → Hp → Prop), Ty S H (wipe σ vs) G → Dat S H v d → (∀ σ2, Ty S H σ2 (gs d G) → wipe σ2 vs = wipe σ vs → Q σ2 H) → g v (wipe σ vs) H Q
theorem tgt_name {j : Nat} : Tgt (gName j) [j] (fun _ => True) (fun d G => G.set j (some d)) := fun d _ S H v σ G Q t p k => by
  refine k _ (t.set j p) ?_
  show ((((σ.set j none).set j (some v)).set j none) : List (Option V)) = σ.set j none
  rw [List.set_set, List.set_set]
theorem tgt_two {j l : Nat} (K : PySem.W.Frag) (h : j ≠ l) : Tgt (gTup K 2 (gCons (gName j) (gCons (gName l) gNil))) [j, l] (fun d => ∃ a b, d = .tup [a, b]) (fun d G => match d with
    | .tup [a, b] => (G.set j (some a)).set l (some b)
    | _ => G) := fun d ok S H v σ G Q t p k => by
  obtain ⟨a, b, rfl⟩ := ok
  refine two_set p fun u w pu pw => k _ ((t.set j pu).set l pw) ?_
  show ((((((σ.set l none).set j none).set j (some u)).set l (some w)).set l none).set j none : List (Option V)) = (σ.set l none).set j none
  have e1 : ∀ (t : L2.St) (a b : Option V), (((t.set j a).set l b).set l none).set j none = (t.set l none).set j none := fun t a b => by
    rw [List.set_set, List.set_comm a none h, List.set_set]
  have e2 : (σ.set l none).set j none = (σ.set j none).set l none := List.set_comm _ _ (Ne.symm h)
  rw [e1, e2, List.set_set, ← e2, List.set_set]
def WTs (X : Cx) (ifs : List Expr) : TT := fun σ H Q => ∃ t, PTs X ifs t ∧ t σ H Q
theorem wts_pts {X : Cx} {ifs : List Expr} : PTs X ifs (WTs X ifs) := ⟨fun pins s σ H Q I ⟨_, h, q⟩ => h.run pins s σ H Q I q⟩
def ttW (X : Cx) (ifs : List Expr) (scope : Scope) : TT := fun σ H Q => ∀ (s : Shared) (H0 : Hp) (C : Addr) (cl : List (Str × Addr)) (fp : List Addr), WTs (X.blk s H0 scope (compEnvC scope cl C X.env) fp) ifs σ H Q
def teW (X : Cx) (elt : Expr) (scope : Scope) : TE := fun σ H Q => ∀ (s : Shared) (H0 : Hp) (C : Addr) (cl : List (Str × Addr)) (fp : List Addr), WE (X.blk s H0 scope (compEnvC scope cl C X.env) fp) elt σ H Q
def EvTs (X : Cx) (S : Addr → Prop) (ifs : List Expr) (G : Gm) (W : As) (b : Bool) (W' : As) : Prop :=
  ∀ σ H, Ty S H σ G → SOk S H → W H → ∀ Q : Bool → Hp → Prop, (∀ H', Kept S H H' → W' H' → Q b H') → WTs X ifs σ H Q
section
variable {X : Cx} {S : Addr → Prop} {G : Gm} {W W1 W' : As} {pos : Pos}
theorem ets_nil : EvTs X S [] G W true W := fun σ H _ _ w Q q => ⟨_, pts_nil, q H (Kept.refl H) w⟩
theorem ets_one {c : Expr} {b : Bool} (h : EvT X S c G W b W1) : EvTs X S [c] G W b W1 := fun σ H ty so w Q q => ⟨_, pts_one wt_pt, h σ H ty so w Q q⟩
abbrev inL (H1 : Hp) (W : As) : As := fun H => Same H1 H ∧ W H
theorem stb_inL {H1 : Hp} (h : Stb W) : Stb (inL H1 W) := stb_and stb_same h
def givenD (n : Nat) (kp : Nat → Bool) (val : Nat → D) : List D := ((List.range n).filter kp).map val
theorem givenD_yes {n : Nat} {f : Nat → Bool} {v : Nat → D} (h : f n = true) : givenD (n + 1) f v = givenD n f v ++ [v n] := by
  unfold givenD
  rw [List.range_succ, List.filter_append, List.map_append, List.filter_cons, if_pos h]
  rfl
theorem givenD_no {n : Nat} {f : Nat → Bool} {v : Nat → D} (h : f n = false) : givenD (n + 1) f v = givenD n f v := by
  unfold givenD
  rw [List.range_succ, List.filter_append, List.map_append, List.filter_cons, if_neg (by rw [h]; decide)]
  show _ ++ [] = _
  rw [List.append_nil]
theorem givenD_len (n : Nat) (f : Nat → Bool) (v : Nat → D) : (givenD n f v).length ≤ n := by
  unfold givenD
  rw [List.length_map]
  have h := List.length_filter_le f (List.range n)
  rw [List.length_range] at h
  exact h
/-- a list comprehension: what is walked, the target, the test, the element -/
theorem ev_lcO {elt tg iter : Expr} {ifs : List Expr} {scope : Scope} {own : List (Str × Nat)} {g : TG} {ok : D → Prop} {gs : D → Gm → Gm} {n : Nat} {it : Nat → D} (kp : Nat → Bool) (val : Nat → D) (h : EvI X S tg iter G W n it W1) (hs1 : Stb W1) (hz : n ≤ 100000)
    (bo : BlkOk X.N X.env.scope scope own) (ht : Tgt g (own.map (·.2)) ok gs) (hok : ∀ i, i < n → ok (it i))
    (hg : ∀ (s : Shared) (H : Hp) (C : Addr) (cl : List (Str × Addr)) (fp : List Addr), PG (X.blk s H scope (compEnvC scope cl C X.env) fp) tg g)
    (he : ∀ (i : Nat) (H0 H1 : Hp) (S' : Addr → Prop) (s : Shared) (H : Hp) (C : Addr) (cl : List (Str × Addr)) (fp : List Addr), i < n → W1 H0 → Same H0 H1 → (∀ b, H0 b ≠ none → S' b → S b) → W1 H1 → (∀ b, S b → S' b) →
      EvTs (X.blk s H scope (compEnvC scope cl C X.env) fp) S' ifs (gs (it i) (wipeG G (own.map (·.2)))) (inL H1 W1) (kp i) (inL H1 W1) ∧
      (kp i = true → Ev (X.blk s H scope (compEnvC scope cl C X.env) fp) S' elt (gs (it i) (wipeG G (own.map (·.2)))) (inL H1 W1) (val i) (inL H1 W1)))
    (hN : X.N.Nodup) (hc : X.calm = true := by rfl) (hs : ∀ x, foldedSetIterable iter X.env x = pure x := by intro _; rfl) : Ev X S (.ListComp elt [⟨tg, iter, ifs, 0⟩] scope pos) G W (.lst (givenD n kp val)) W1 := fun σ H ty so w Q q => by
  refine ⟨_, pe_lc (own := own) (g := g) (wi := fun σ H R => ∃ wi, PI X tg iter wi ∧ wi σ H R) (tt := ttW X ifs scope) (te := teW X elt scope) hc hN ⟨fun pins s σ H R I ⟨wi, c, z⟩ => c.run pins s σ H R I z⟩ bo hg
      (fun s H C cl fp => ⟨fun pins s' σ H' Q I z => (wts_pts (X := X.blk s H scope (compEnvC scope cl C X.env) fp) (ifs := ifs)).run pins s' σ H' Q I (z s H C cl fp)⟩)
      (fun s H C cl fp => ⟨fun pins s' σ H' Q I z => (we_pe (X := X.blk s H scope (compEnvC scope cl C X.env) fp) (e := elt)).run pins s' σ H' Q I (z s H C cl fp)⟩) hs, ?_⟩
  refine h σ H ty so w _ fun H1 J Gd Y k1 w1 wk hgd hy => ?_
  intro Dl hD
  have so1 := so.kept k1
  have ty1 := ty_wipe (ty.kept k1) (own.map (·.2))
  -- the new list's own place is off the data
  have sub : ∀ b, S b → (S b ∨ b = Dl) := fun b z => .inl z
  have offD : ∀ {H' : Hp}, Same H1 H' → ∀ b, H1 b ≠ none → (S b ∨ b = Dl) → S b := fun e b nb z => z.elim id fun y => absurd (by rw [y]; exact hD) nb
  have ty2 : Ty (fun b => S b ∨ b = Dl) H1 (wipe σ (own.map (·.2))) (wipeG G (own.map (·.2))) := ty1.off (offD (Same.refl H1))
  refine lc_it (g := g) (tt := ttW X ifs scope) (te := teW X elt scope) (vs := own.map (·.2)) (σ := σ) (H1 := H1) (D := Dl) (Qd := fun H => Q (.ref Dl) H) wk (fun i H' => Same H1 H' ∧ SOk (fun b => S b ∨ b = Dl) H' ∧ ∃ acc, H' Dl = some (.lst acc) ∧ DatL (fun b => S b ∨ b = Dl) H' acc (givenD i kp val)) ?_ (fun i H' _ p => hgd H' p.1) ?_ ?_
  · refine ⟨Same.new hD, fun b z => ?_, [], upd_same, rfl⟩
    rcases z with z | z
    · intro e
      by_cases c : b = Dl
      · rw [c, upd_same] at e
        cases e
      · rw [upd_ne c] at e
        exact so1 b z e
    · rw [z, upd_same]
      exact fun e => nomatch e
  · rintro i x H2 H3 hi ⟨e1, so2, acc, ha, hacc⟩ y
    obtain ⟨rfl, pd⟩ := hy i H2 x H3 (fun b => S b ∨ b = Dl) hi e1 (offD (Same.refl H1)) y
    have w3 : W1 H3 := hs1 _ _ w1 e1
    have ty3 := ty2.kept (Same.kept e1)
    refine ht (it i) (hok i hi) _ H3 x σ _ _ ty3 pd fun σ2 t2 e2 => ⟨e2, fun s0 H0 C cl fp => ?_⟩
    refine (he i H1 H3 _ s0 H0 C cl fp hi w1 e1 (offD (Same.refl H1)) w3 sub).1 σ2 H3 t2 so2 ⟨Same.refl H3, w3⟩ _ fun H4 k4 w4 => ?_
    have a4 : H4 Dl = some (.lst acc) := w4.1 _ _ ha
    cases c : kp i with
    | false =>
      refine iteF ⟨e1.trans w4.1, so2.kept k4, acc, a4, ?_⟩
      rw [givenD_no c]
      exact hacc.kept (Same.kept w4.1)
    | true =>
      refine iteT fun s0 H0 C cl fp => ?_
      refine (he i H1 H3 _ s0 H0 C cl fp hi w1 e1 (offD (Same.refl H1)) w3 sub).2 c σ2 H4 (t2.kept k4) (so2.kept k4) w4 _ fun u H5 k5 w5 p5 => ?_
      have a5 : H5 Dl = some (.lst acc) := w5.1 _ _ ha
      have l5 : acc.length < sizeLine := by
        have q1 := hacc.len
        have q2 := givenD_len i kp val
        have q3 : sizeLine = 16777216 := sizeLine_eq
        omega
      have s6 : Same H1 (upd H5 Dl (.lst (acc ++ [u]))) := fun b o eb => by
        rw [upd_ne (ne_of_none eb hD)]
        exact w5.1 _ _ (e1 _ _ eb)
      have off6 : ∀ b o, H5 b = some o → ¬ (S b ∨ b = Dl) → (upd H5 Dl (.lst (acc ++ [u]))) b = some o := fun b o eb nb => by
        rw [upd_ne fun z => nb (.inr z)]
        exact eb
      refine ⟨acc, a5, l5, s6, fun b z => ?_, acc ++ [u], upd_same, ?_⟩
      · by_cases q : b = Dl
        · rw [q, upd_same]
          exact fun e => nomatch e
        · rw [upd_ne q]
          exact (so2.kept k4).kept k5 b z
      · rw [givenD_yes c]
        exact (DatL.mono off6 _ _ (hacc.kept (Same.kept w5.1))).append (DatL.one (Dat.mono off6 _ _ p5))
  · rintro H2 ⟨e1, so2, acc, ha, hacc⟩
    exact q _ H2 (k1.trans (Same.kept e1)) (hs1 _ _ w1 e1) ⟨Dl, acc, rfl, so1.new hD, ha, DatL.off (fun b _ z => .inl z) _ _ hacc⟩
theorem ev_lc {elt tg iter : Expr} {ifs : List Expr} {scope : Scope} {own : List (Str × Nat)} {g : TG} {ok : D → Prop} {gs : D → Gm → Gm} {n : Nat} {it : Nat → D} (kp : Nat → Bool) (val : Nat → D) (h : EvI X S tg iter G W n it W1) (hs1 : Stb W1) (hz : n ≤ 100000)
    (bo : BlkOk X.N X.env.scope scope own) (ht : Tgt g (own.map (·.2)) ok gs) (hok : ∀ i, i < n → ok (it i))
    (hg : ∀ (s : Shared) (H : Hp) (C : Addr) (cl : List (Str × Addr)) (fp : List Addr), PG (X.blk s H scope (compEnvC scope cl C X.env) fp) tg g)
    (he : ∀ (i : Nat) (H1 : Hp) (S' : Addr → Prop) (s : Shared) (H : Hp) (C : Addr) (cl : List (Str × Addr)) (fp : List Addr), i < n → W1 H1 → (∀ b, S b → S' b) →
      EvTs (X.blk s H scope (compEnvC scope cl C X.env) fp) S' ifs (gs (it i) (wipeG G (own.map (·.2)))) (inL H1 W1) (kp i) (inL H1 W1) ∧
      (kp i = true → Ev (X.blk s H scope (compEnvC scope cl C X.env) fp) S' elt (gs (it i) (wipeG G (own.map (·.2)))) (inL H1 W1) (val i) (inL H1 W1)))
    (hN : X.N.Nodup) (hc : X.calm = true := by rfl) (hs : ∀ x, foldedSetIterable iter X.env x = pure x := by intro _; rfl) : Ev X S (.ListComp elt [⟨tg, iter, ifs, 0⟩] scope pos) G W (.lst (givenD n kp val)) W1 :=
  ev_lcO kp val h hs1 hz bo ht hok hg (fun i _ H1 S' s H C cl fp hi _ _ _ w sub => he i H1 S' s H C cl fp hi w sub) hN hc hs
end

/-! ### small words -/
theorem atI_of {α : Type} {l : List α} {z : Int} {n : Nat} {d : α} (e : z = (n : Int)) (h : l[n]? = some d) : atI l z = some d := by
  subst e
  have hn := (List.getElem?_eq_some_iff.mp h).1
  unfold atI ixN
  rw [if_pos (Int.natCast_nonneg n), if_pos (by omega), Int.toNat_natCast]
  exact h
theorem atI_last {α : Type} {l : List α} {d : α} (h : l.getLast? = some d) : atI l (-1) = some d := by
  have h2 : l[l.length - 1]? = some d := by rw [← List.getLast?_eq_getElem?]; exact h
  have hn := (List.getElem?_eq_some_iff.mp h2).1
  unfold atI ixN
  rw [if_neg (by decide), if_pos (by omega)]
  show l[(-1 + (l.length : Int)).toNat]? = some d
  rw [show (-1 + (l.length : Int)).toNat = l.length - 1 by omega]
  exact h2
section
variable {X : Cx} {S : Addr → Prop} {G : Gm} {W W1 W' : As} {pos : Pos} {e : Expr} {i : Int}
theorem ev_neg (h : Ev X S e G W (.int i) W1) : Ev X S (.UnaryOp .USub e pos) G W (.int (-i)) W1 := fun σ H ty so w Q q =>
  ⟨_, pe_un un_neg we_pe, h σ H ty so w _ fun v H1 k1 w1 p1 => ⟨i, p1, q _ H1 k1 w1 rfl⟩⟩
end

/-! ### try -/
/-- what a clause for the class at C makes of an error -/
def Caught (X : Cx) (C : Addr) (suite : List Stmt) (E : Ends) (c : Addr) (H : Hp) : Prop :=
  PySem.W.exmOne X.K (.ref c) (.ref C) = some true ∧ ∀ (a : Addr) (oe : Obj) (pn : List (Addr × Obj)) (σ : L2.St), σ.length = X.N.length → H a = none → L2N.Zn (.ref c) none oe → (∃ vs, oe.data = .fields vs) → WB (X.suite a ((a, oe) :: pn)) suite E σ H
theorem takes_no {X : Cx} : L2N.Takes X (fun _ _ _ _ => False) := fun _ _ x => by
  obtain ⟨_, _, _, _, _, _, _, _, _, _, _, _, _, _, _, _, z⟩ := x
  exact z.elim
section
variable {X : Cx} {S : Addr → Prop} {G : Gm} {W : As} {pos pos' np : Pos} {body rest suite : List Stmt} {b0 : Stmt} {E : Ends} {x n : Str} {C : Addr}
def tryW (X : Cx) (body : List Stmt) : WX → TS := fun Wx D σ H => σ.length = X.N.length ∧ ∀ (pn : List (Addr × Obj)) (xe : Value → Shared → Prop), L2N.Takes (X.tr pn xe) Wx → PassesOwn (model X.prog X.w) X.A X.env xe → WB (X.tr pn xe) body D σ H
theorem blk_try (hx : X.mg x = some (.ref C)) (k : ∀ (pn : List (Addr × Obj)) (xe : Value → Shared → Prop), Tk (X.tr pn xe) (Caught X C (b0 :: suite) (Ends.on E X rest)) → PassesOwn (model X.prog X.w) X.A X.env xe → Blk (X.tr pn xe) S body (Ends.on E X rest) G W)
    (hG : G.length = X.N.length := by rfl) (hg : Gl X x := by rfl) (hdb : (x == ("__debug__" : Str)) = false := by decide) (hs : X.stack = X.env :: X.outer := by rfl) (hf : X.env.frame = some X.env.locals := by rfl) :
    Blk X S (.Try body [.ExceptHandler (some (.Name x np)) none (b0 :: suite) pos'] [] [] pos :: rest) E G W := fun σ H ty so w => by
  refine ⟨_, pss_cons (L2N.ps_try_many (tb := fun Wx D σ H => ∀ (pn : List (Addr × Obj)) (xe : Value → Shared → Prop), L2N.Takes (X.tr pn xe) Wx → PassesOwn (model X.prog X.w) X.A X.env xe → WB (X.tr pn xe) body D σ H) hs hf takes_no
    (fun Wx pn xe t po => ⟨fun pins s σ H D I z => (wb_pss (X := X.tr pn xe) (st := body)).run pins s σ H D I (z pn xe t po)⟩)
    (.cons (c := .ref C) (ts := fun a cls d D σ H => σ.length = X.N.length → ∀ (oe : Obj) (pn : List (Addr × Obj)), L2N.Zn cls d oe → (∃ vs, oe.data = .fields vs) → WB (X.suite a ((a, oe) :: pn)) (b0 :: suite) D σ H) ⟨hg, hdb, .inl hx⟩
      (fun a oe cls d pn hz hv => ⟨fun pins s σ H D I z => (wb_pss (X := X.suite a ((a, oe) :: pn)) (st := b0 :: suite)).run pins s σ H D I (z I.len oe pn hz hv)⟩) .nil)) wb_pss, ?_⟩
  refine fun pn xe t po => k pn xe ⟨_, t, fun c σ' H' hl hc => ?_⟩ po σ H ty so w
  exact ⟨true, hc.1, fun _ a na hl2 oe pn hz hv => hc.2 a oe pn σ' hl2 na hz hv, fun z => Bool.noConfusion z⟩
end
end Ink
/-! Ink4 -/
/-! Where the defs stand, their names by slot, what the top has written. -/
namespace Ink
open PySem PySem.Spec PyProof.Rows L2
def top (i : Nat) : Stmt := PySem.Challenge.pw_inkloom_k39_letters_refused.main.body.getD i (.Pass ⟨0, 0, 0, 0⟩)
abbrev s_is_whole : Stmt := top 18
abbrev n_is_whole : List Str := ["thing"]
theorem c_is_whole : FnScope n_is_whole ["thing"] (defScope s_is_whole) := ⟨rfl, rfl, rfl, by decide +kernel, rfl, by decide +kernel, by decide +kernel⟩
abbrev s_is_text : Stmt := top 19
abbrev n_is_text : List Str := ["thing", "sign"]
theorem c_is_text : FnScope n_is_text ["thing"] (defScope s_is_text) := ⟨rfl, rfl, rfl, by decide +kernel, rfl, by decide +kernel, by decide +kernel⟩
abbrev s_need_text : Stmt := top 20
abbrev n_need_text : List Str := ["thing"]
theorem c_need_text : FnScope n_need_text ["thing"] (defScope s_need_text) := ⟨rfl, rfl, rfl, by decide +kernel, rfl, by decide +kernel, by decide +kernel⟩
abbrev s_is_part : Stmt := top 22
abbrev n_is_part : List Str := ["thing"]
theorem c_is_part : FnScope n_is_part ["thing"] (defScope s_is_part) := ⟨rfl, rfl, rfl, by decide +kernel, rfl, by decide +kernel, by decide +kernel⟩
abbrev s_need_change : Stmt := top 23
abbrev n_need_change : List Str := ["change", "part", "place", "word"]
theorem c_need_change : FnScope n_need_change ["change"] (defScope s_need_change) := ⟨rfl, rfl, rfl, by decide +kernel, rfl, by decide +kernel, by decide +kernel⟩
abbrev s_size_of : Stmt := top 24
abbrev n_size_of : List Str := ["thing"]
theorem c_size_of : FnScope n_size_of ["thing"] (defScope s_size_of) := ⟨rfl, rfl, rfl, by decide +kernel, rfl, by decide +kernel, by decide +kernel⟩
abbrev s_sizes : Stmt := top 25
abbrev n_sizes : List Str := ["change", "over", "word", "thing"]
theorem c_sizes : FnScope n_sizes ["change"] (defScope s_sizes) := ⟨rfl, rfl, rfl, by decide +kernel, rfl, by decide +kernel, by decide +kernel⟩
abbrev s_run_of : Stmt := top 26
abbrev n_run_of : List Str := ["put", "cut", "found"]
theorem c_run_of : FnScope n_run_of ["put", "cut"] (defScope s_run_of) := ⟨rfl, rfl, rfl, by decide +kernel, rfl, by decide +kernel, by decide +kernel⟩
abbrev s_with_keep : Stmt := top 27
abbrev n_with_keep : List Str := ["parts", "size"]
theorem c_with_keep : FnScope n_with_keep ["parts", "size"] (defScope s_with_keep) := ⟨rfl, rfl, rfl, by decide +kernel, rfl, by decide +kernel, by decide +kernel⟩
abbrev s_neat : Stmt := top 28
abbrev n_neat : List Str := ["parts", "found", "put", "cut", "word", "thing"]
theorem c_neat : FnScope n_neat ["parts"] (defScope s_neat) := ⟨rfl, rfl, rfl, by decide +kernel, rfl, by decide +kernel, by decide +kernel⟩
abbrev s_done : Stmt := top 29
abbrev n_done : List Str := ["text", "change", "found", "at", "word", "thing", "behind"]
theorem c_done : FnScope n_done ["text", "change"] (defScope s_done) := ⟨rfl, rfl, rfl, by decide +kernel, rfl, by decide +kernel, by decide +kernel⟩
abbrev s_put_past : Stmt := top 36
abbrev n_put_past : List Str := ["reader", "mine", "others", "word", "thing"]
theorem c_put_past : FnScope n_put_past ["reader", "mine", "others"] (defScope s_put_past) := ⟨rfl, rfl, rfl, by decide +kernel, rfl, by decide +kernel, by decide +kernel⟩
abbrev s_signs_past : Stmt := top 37
abbrev n_signs_past : List Str := ["first", "second", "mine", "others", "size", "piece", "other"]
theorem c_signs_past : FnScope n_signs_past ["first", "second", "mine", "others"] (defScope s_signs_past) := ⟨rfl, rfl, rfl, by decide +kernel, rfl, by decide +kernel, by decide +kernel⟩
abbrev s_passed : Stmt := top 38
abbrev n_passed : List Str := ["one", "other", "first", "second", "mine", "others"]
theorem c_passed : FnScope n_passed ["one", "other"] (defScope s_passed) := ⟨rfl, rfl, rfl, by decide +kernel, rfl, by decide +kernel, by decide +kernel⟩
abbrev s_is_change : Stmt := top 41
abbrev n_is_change : List Str := ["thing"]
theorem c_is_change : FnScope n_is_change ["thing"] (defScope s_is_change) := ⟨rfl, rfl, rfl, by decide +kernel, rfl, by decide +kernel, by decide +kernel⟩
abbrev s_is_number : Stmt := top 42
abbrev n_is_number : List Str := ["thing", "least", "most"]
theorem c_is_number : FnScope n_is_number ["thing", "least", "most"] (defScope s_is_number) := ⟨rfl, rfl, rfl, by decide +kernel, rfl, by decide +kernel, by decide +kernel⟩
abbrev s_is_ask : Stmt := top 43
abbrev n_is_ask : List Str := ["letter", "hands", "most"]
theorem c_is_ask : FnScope n_is_ask ["letter", "hands", "most"] (defScope s_is_ask) := ⟨rfl, rfl, rfl, by decide +kernel, rfl, by decide +kernel, by decide +kernel⟩
abbrev s_is_again : Stmt := top 44
abbrev n_is_again : List Str := ["letter", "hands", "most"]
theorem c_is_again : FnScope n_is_again ["letter", "hands", "most"] (defScope s_is_again) := ⟨rfl, rfl, rfl, by decide +kernel, rfl, by decide +kernel, by decide +kernel⟩
abbrev s_is_took : Stmt := top 47
abbrev n_is_took : List Str := ["letter", "own"]
theorem c_is_took : FnScope n_is_took ["letter", "own"] (defScope s_is_took) := ⟨rfl, rfl, rfl, by decide +kernel, rfl, by decide +kernel, by decide +kernel⟩
abbrev s_copied : Stmt := top 48
abbrev n_copied : List Str := ["change"]
theorem c_copied : FnScope n_copied ["change"] (defScope s_copied) := ⟨rfl, rfl, rfl, by decide +kernel, rfl, by decide +kernel, by decide +kernel⟩
abbrev s_w_cell_at : Stmt := top 51
abbrev n_w_cell_at : List Str := ["_law_script", "_law_k"]
theorem c_w_cell_at : FnScope n_w_cell_at ["_law_script", "_law_k"] (defScope s_w_cell_at) := ⟨rfl, rfl, rfl, by decide +kernel, rfl, by decide +kernel, by decide +kernel⟩
abbrev s_w_word : Stmt := top 52
abbrev n_w_word : List Str := ["_law_e", "_law_some", "_law_found", "_law_word_here", "_law_fits"]
theorem c_w_word : FnScope n_w_word ["_law_e"] (defScope s_w_word) := ⟨rfl, rfl, rfl, by decide +kernel, rfl, by decide +kernel, by decide +kernel⟩
abbrev s_w_server_refused : Stmt := top 53
abbrev n_w_server_refused : List Str := ["_law_server", "_law_letter", "_law_e"]
theorem c_w_server_refused : FnScope n_w_server_refused ["_law_server", "_law_letter"] (defScope s_w_server_refused) := ⟨rfl, rfl, rfl, by decide +kernel, rfl, by decide +kernel, by decide +kernel⟩
abbrev s_w_hand_refused : Stmt := top 54
abbrev n_w_hand_refused : List Str := ["_law_hand", "_law_letter", "_law_e"]
theorem c_w_hand_refused : FnScope n_w_hand_refused ["_law_hand", "_law_letter"] (defScope s_w_hand_refused) := ⟨rfl, rfl, rfl, by decide +kernel, rfl, by decide +kernel, by decide +kernel⟩
abbrev s_w_made_refused : Stmt := top 55
abbrev n_w_made_refused : List Str := ["_law_way", "_law_thing", "_law_e"]
theorem c_w_made_refused : FnScope n_w_made_refused ["_law_way", "_law_thing"] (defScope s_w_made_refused) := ⟨rfl, rfl, rfl, by decide +kernel, rfl, by decide +kernel, by decide +kernel⟩
abbrev s_w_number_refused : Stmt := top 56
abbrev n_w_number_refused : List Str := ["_law_server", "_law_number", "_law_e"]
theorem c_w_number_refused : FnScope n_w_number_refused ["_law_server", "_law_number"] (defScope s_w_number_refused) := ⟨rfl, rfl, rfl, by decide +kernel, rfl, by decide +kernel, by decide +kernel⟩
abbrev s_w_change_refused : Stmt := top 57
abbrev n_w_change_refused : List Str := ["_law_hand", "_law_change", "_law_e"]
theorem c_w_change_refused : FnScope n_w_change_refused ["_law_hand", "_law_change"] (defScope s_w_change_refused) := ⟨rfl, rfl, rfl, by decide +kernel, rfl, by decide +kernel, by decide +kernel⟩
abbrev s_w_no_change : Stmt := top 58
abbrev n_w_no_change : List Str := ["_law_cell", "_law_some"]
theorem c_w_no_change : FnScope n_w_no_change ["_law_cell"] (defScope s_w_no_change) := ⟨rfl, rfl, rfl, by decide +kernel, rfl, by decide +kernel, by decide +kernel⟩
abbrev s_w_no_ask : Stmt := top 59
abbrev n_w_no_ask : List Str := ["_law_server", "_law_hands", "_law_cell", "_law_many", "_law_size", "_law_good", "_law_far", "_law_some"]
theorem c_w_no_ask : FnScope n_w_no_ask ["_law_server", "_law_hands", "_law_cell"] (defScope s_w_no_ask) := ⟨rfl, rfl, rfl, by decide +kernel, rfl, by decide +kernel, by decide +kernel⟩
abbrev s_w_no_took : Stmt := top 60
abbrev n_w_no_took : List Str := ["_law_hand", "_law_own", "_law_cell", "_law_size", "_law_good", "_law_other", "_law_some"]
theorem c_w_no_took : FnScope n_w_no_took ["_law_hand", "_law_own", "_law_cell"] (defScope s_w_no_took) := ⟨rfl, rfl, rfl, by decide +kernel, rfl, by decide +kernel, by decide +kernel⟩
abbrev s_w_unfit : Stmt := top 61
abbrev n_w_unfit : List Str := ["_law_server", "_law_cell", "_law_text", "_law_serial", "_law_size", "_law_some"]
theorem c_w_unfit : FnScope n_w_unfit ["_law_server", "_law_cell"] (defScope s_w_unfit) := ⟨rfl, rfl, rfl, by decide +kernel, rfl, by decide +kernel, by decide +kernel⟩
abbrev s_w_all : Stmt := top 62
abbrev n_w_all : List Str := ["_law_server", "_law_hand", "_law_told"]
theorem c_w_all : FnScope n_w_all ["_law_server", "_law_hand"] (defScope s_w_all) := ⟨rfl, rfl, rfl, by decide +kernel, rfl, by decide +kernel, by decide +kernel⟩
abbrev s_w_taken : Stmt := top 63
abbrev n_w_taken : List Str := ["_law_server", "_law_cells", "_law_hands", "_law_serials", "_law_cell", "_law_who", "_law_size", "_law_place", "_law_parts"]
theorem c_w_taken : FnScope n_w_taken ["_law_server", "_law_cells", "_law_hands"] (defScope s_w_taken) := ⟨rfl, rfl, rfl, by decide +kernel, rfl, by decide +kernel, by decide +kernel⟩
abbrev s_w_first_refused : Stmt := top 64
abbrev n_w_first_refused : List Str := ["_law_way", "_law_text", "_law_e"]
theorem c_w_first_refused : FnScope n_w_first_refused ["_law_way", "_law_text"] (defScope s_w_first_refused) := ⟨rfl, rfl, rfl, by decide +kernel, rfl, by decide +kernel, by decide +kernel⟩
abbrev s_w_others_refused : Stmt := top 65
abbrev n_w_others_refused : List Str := ["_law_server", "_law_hand", "_law_far", "_law_text", "_law_number"]
theorem c_w_others_refused : FnScope n_w_others_refused ["_law_server", "_law_hand", "_law_far"] (defScope s_w_others_refused) := ⟨rfl, rfl, rfl, by decide +kernel, rfl, by decide +kernel, by decide +kernel⟩
abbrev s_w_cut : Stmt := top 66
abbrev n_w_cut : List Str := ["_law_server", "_law_serial", "_law_many", "_law_text", "_law_ask"]
theorem c_w_cut : FnScope n_w_cut ["_law_server", "_law_serial"] (defScope s_w_cut) := ⟨rfl, rfl, rfl, by decide +kernel, rfl, by decide +kernel, by decide +kernel⟩
abbrev s_w_goes_on : Stmt := top 67
abbrev n_w_goes_on : List Str := ["_law_server", "_law_hands", "_law_serial", "_law_many", "_law_text", "_law_found", "_law_letter", "_law_k", "_law_told"]
theorem c_w_goes_on : FnScope n_w_goes_on ["_law_server", "_law_hands", "_law_serial"] (defScope s_w_goes_on) := ⟨rfl, rfl, rfl, by decide +kernel, rfl, by decide +kernel, by decide +kernel⟩
abbrev s_w_own_comes : Stmt := top 68
abbrev n_w_own_comes : List Str := ["_law_hand", "_law_own"]
theorem c_w_own_comes : FnScope n_w_own_comes ["_law_hand", "_law_own"] (defScope s_w_own_comes) := ⟨rfl, rfl, rfl, by decide +kernel, rfl, by decide +kernel, by decide +kernel⟩
abbrev s_w_early : Stmt := top 69
abbrev n_w_early : List Str := ["_law_server", "_law_many"]
theorem c_w_early : FnScope n_w_early ["_law_server"] (defScope s_w_early) := ⟨rfl, rfl, rfl, by decide +kernel, rfl, by decide +kernel, by decide +kernel⟩
abbrev s_w_later : Stmt := top 70
abbrev n_w_later : List Str := ["_law_server", "_law_many", "_law_found", "_law_letter"]
theorem c_w_later : FnScope n_w_later ["_law_server", "_law_many"] (defScope s_w_later) := ⟨rfl, rfl, rfl, by decide +kernel, rfl, by decide +kernel, by decide +kernel⟩
abbrev s_w_letter_comes : Stmt := top 71
abbrev n_w_letter_comes : List Str := ["_law_hand", "_law_own", "_law_text", "_law_letters", "_law_changes"]
theorem c_w_letter_comes : FnScope n_w_letter_comes ["_law_hand", "_law_own"] (defScope s_w_letter_comes) := ⟨rfl, rfl, rfl, by decide +kernel, rfl, by decide +kernel, by decide +kernel⟩
abbrev s_law : Stmt := top 72
abbrev n_law : List Str := ["_law_script", "_law_hands", "_law_own", "_law_server", "_law_hand", "_law_serials", "_law_cell", "_law_kept", "_law_serial", "_law_many", "_law_far", "_law_good"]
theorem c_law : FnScope n_law ["_law_script"] (defScope s_law) := ⟨rfl, rfl, rfl, by decide +kernel, rfl, by decide +kernel, by decide +kernel⟩
abbrev s_Reader_init : Stmt := inClass (top 31) 0
abbrev n_Reader_init : List Str := ["self", "change"]
theorem c_Reader_init : FnScope n_Reader_init ["self", "change"] (defScope s_Reader_init) := ⟨rfl, rfl, rfl, by decide +kernel, rfl, by decide +kernel, by decide +kernel⟩
abbrev s_Reader_word : Stmt := inClass (top 31) 1
abbrev n_Reader_word : List Str := ["self"]
theorem c_Reader_word : FnScope n_Reader_word ["self"] (defScope s_Reader_word) := ⟨rfl, rfl, rfl, by decide +kernel, rfl, by decide +kernel, by decide +kernel⟩
abbrev s_Reader_next_size : Stmt := inClass (top 31) 2
abbrev n_Reader_next_size : List Str := ["self"]
theorem c_Reader_next_size : FnScope n_Reader_next_size ["self"] (defScope s_Reader_next_size) := ⟨rfl, rfl, rfl, by decide +kernel, rfl, by decide +kernel, by decide +kernel⟩
abbrev s_Reader_cut_off : Stmt := inClass (top 31) 3
abbrev n_Reader_cut_off : List Str := ["self", "most", "word", "thing"]
theorem c_Reader_cut_off : FnScope n_Reader_cut_off ["self", "most"] (defScope s_Reader_cut_off) := ⟨rfl, rfl, rfl, by decide +kernel, rfl, by decide +kernel, by decide +kernel⟩
abbrev s_Server_init : Stmt := inClass (top 45) 0
abbrev n_Server_init : List Str := ["self", "text", "hands", "hand"]
theorem c_Server_init : FnScope n_Server_init ["self", "text", "hands"] (defScope s_Server_init) := ⟨rfl, rfl, rfl, by decide +kernel, rfl, by decide +kernel, by decide +kernel⟩
abbrev s_Server_text : Stmt := inClass (top 45) 1
abbrev n_Server_text : List Str := ["self"]
theorem c_Server_text : FnScope n_Server_text ["self"] (defScope s_Server_text) := ⟨rfl, rfl, rfl, by decide +kernel, rfl, by decide +kernel, by decide +kernel⟩
abbrev s_Server_many : Stmt := inClass (top 45) 2
abbrev n_Server_many : List Str := ["self"]
theorem c_Server_many : FnScope n_Server_many ["self"] (defScope s_Server_many) := ⟨rfl, rfl, rfl, by decide +kernel, rfl, by decide +kernel, by decide +kernel⟩
abbrev s_Server_change : Stmt := inClass (top 45) 3
abbrev n_Server_change : List Str := ["self", "number"]
theorem c_Server_change : FnScope n_Server_change ["self", "number"] (defScope s_Server_change) := ⟨rfl, rfl, rfl, by decide +kernel, rfl, by decide +kernel, by decide +kernel⟩
abbrev s_Server_took : Stmt := inClass (top 45) 4
abbrev n_Server_took : List Str := ["self", "hand", "number", "who", "change"]
theorem c_Server_took : FnScope n_Server_took ["self", "hand", "number"] (defScope s_Server_took) := ⟨rfl, rfl, rfl, by decide +kernel, rfl, by decide +kernel, by decide +kernel⟩
abbrev s_Server_came : Stmt := inClass (top 45) 5
abbrev n_Server_came : List Str := ["self", "letter", "number", "hand"]
theorem c_Server_came : FnScope n_Server_came ["self", "letter"] (defScope s_Server_came) := ⟨rfl, rfl, rfl, by decide +kernel, rfl, by decide +kernel, by decide +kernel⟩
abbrev s_Server_take : Stmt := inClass (top 45) 6
abbrev n_Server_take : List Str := ["self", "hand", "at", "change", "who", "other"]
theorem c_Server_take : FnScope n_Server_take ["self", "hand", "at", "change"] (defScope s_Server_take) := ⟨rfl, rfl, rfl, by decide +kernel, rfl, by decide +kernel, by decide +kernel⟩
abbrev s_Hand_init : Stmt := inClass (top 49) 0
abbrev n_Hand_init : List Str := ["self", "number", "text"]
theorem c_Hand_init : FnScope n_Hand_init ["self", "number", "text"] (defScope s_Hand_init) := ⟨rfl, rfl, rfl, by decide +kernel, rfl, by decide +kernel, by decide +kernel⟩
abbrev s_Hand_text : Stmt := inClass (top 49) 1
abbrev n_Hand_text : List Str := ["self"]
theorem c_Hand_text : FnScope n_Hand_text ["self"] (defScope s_Hand_text) := ⟨rfl, rfl, rfl, by decide +kernel, rfl, by decide +kernel, by decide +kernel⟩
abbrev s_Hand_seen : Stmt := inClass (top 49) 2
abbrev n_Hand_seen : List Str := ["self"]
theorem c_Hand_seen : FnScope n_Hand_seen ["self"] (defScope s_Hand_seen) := ⟨rfl, rfl, rfl, by decide +kernel, rfl, by decide +kernel, by decide +kernel⟩
abbrev s_Hand_flight : Stmt := inClass (top 49) 3
abbrev n_Hand_flight : List Str := ["self"]
theorem c_Hand_flight : FnScope n_Hand_flight ["self"] (defScope s_Hand_flight) := ⟨rfl, rfl, rfl, by decide +kernel, rfl, by decide +kernel, by decide +kernel⟩
abbrev s_Hand_asked : Stmt := inClass (top 49) 5
abbrev n_Hand_asked : List Str := ["self"]
theorem c_Hand_asked : FnScope n_Hand_asked ["self"] (defScope s_Hand_asked) := ⟨rfl, rfl, rfl, by decide +kernel, rfl, by decide +kernel, by decide +kernel⟩
abbrev s_Hand_flies : Stmt := inClass (top 49) 6
abbrev n_Hand_flies : List Str := ["self", "change"]
theorem c_Hand_flies : FnScope n_Hand_flies ["self", "change"] (defScope s_Hand_flies) := ⟨rfl, rfl, rfl, by decide +kernel, rfl, by decide +kernel, by decide +kernel⟩
abbrev s_Hand_do : Stmt := inClass (top 49) 7
abbrev n_Hand_do : List Str := ["self", "change"]
theorem c_Hand_do : FnScope n_Hand_do ["self", "change"] (defScope s_Hand_do) := ⟨rfl, rfl, rfl, by decide +kernel, rfl, by decide +kernel, by decide +kernel⟩
abbrev s_Hand_nudge : Stmt := inClass (top 49) 8
abbrev n_Hand_nudge : List Str := ["self", "found"]
theorem c_Hand_nudge : FnScope n_Hand_nudge ["self"] (defScope s_Hand_nudge) := ⟨rfl, rfl, rfl, by decide +kernel, rfl, by decide +kernel, by decide +kernel⟩
abbrev s_Hand_came : Stmt := inClass (top 49) 9
abbrev n_Hand_came : List Str := ["self", "letter", "letters", "changes", "who", "change"]
theorem c_Hand_came : FnScope n_Hand_came ["self", "letter"] (defScope s_Hand_came) := ⟨rfl, rfl, rfl, by decide +kernel, rfl, by decide +kernel, by decide +kernel⟩
abbrev s_Hand_own_taken : Stmt := inClass (top 49) 10
abbrev n_Hand_own_taken : List Str := ["self", "change"]
theorem c_Hand_own_taken : FnScope n_Hand_own_taken ["self"] (defScope s_Hand_own_taken) := ⟨rfl, rfl, rfl, by decide +kernel, rfl, by decide +kernel, by decide +kernel⟩
abbrev s_Hand_others_taken : Stmt := inClass (top 49) 11
abbrev n_Hand_others_taken : List Str := ["self", "change", "flown", "queue"]
theorem c_Hand_others_taken : FnScope n_Hand_others_taken ["self", "change"] (defScope s_Hand_others_taken) := ⟨rfl, rfl, rfl, by decide +kernel, rfl, by decide +kernel, by decide +kernel⟩
/-- the signs, by code -/
def sgl : List Nat := [32, 33, 34, 35, 36, 38, 39, 40, 41, 42, 43, 44, 45, 46, 47, 48, 49, 50, 51, 52, 53, 54, 55, 56, 57, 58, 59, 60, 61, 62, 63, 64, 65, 66, 67, 68, 69, 70, 71, 72, 73, 74, 75, 76, 77, 78, 79, 80, 81, 82, 83, 84, 85, 86, 87, 88, 89, 90, 91, 92, 93, 94, 95, 96, 97, 98, 99, 100, 101, 102, 103, 104, 105, 106, 107, 108, 109, 110, 111, 112, 113, 114, 115, 116, 117, 118, 119, 120, 121, 122, 123, 124, 125, 126, 10]
def SG : Str := ⟨sgl.toArray⟩
/-- the error classes, the own classes -/
structure Ad where
  ink : Addr
  text : Addr
  change : Addr
  fit : Addr
  place : Addr
  side : Addr
  mark : Addr
  node : Addr
  cursor : Addr
  deed : Addr
  letter : Addr
  gone : Addr
  hand : Addr
  note : Addr
  rdr : Addr
  srv : Addr
  hnd : Addr
/-- a def of the module -/
def Df (B : Bs) (x : Str) (st : Stmt) : Prop := ∃ f fd, Fun B.K x x st f fd ∧ B.mg x = some (.ref f)
/-- a method -/
def Mf (B : Bs) (C : Addr) (m q : Str) (st : Stmt) : Prop := ∃ f fd, Fun B.K m q st f fd ∧ Meth B.K C m f
/-- an own class: its instances' fields are plain -/
structure Oc (B : Bs) (x : Str) (C : Addr) (fs : List Str) : Prop where
  g : B.mg x = some (.ref C)
  cl : Cls B.K C
  nf : ∀ f ∈ fs, NoAttr B.K C f
  mki : PySem.W.makesIn B.K C = true
  kp : PySem.W.keepIn B.K (.ref C) = true
structure Txt (B : Bs) (A : Ad) : Prop where
  zlen : B.mg "len" = none
  zisi : B.mg "isinstance" = none
  zall : B.mg "all" = none
  zsum : B.mg "sum" = none
  zmin : B.mg "min" = none
  zmax : B.mg "max" = none
  zint : B.mg "int" = none
  zstr : B.mg "str" = none
  zbool : B.mg "bool" = none
  zlist : B.mg "list" = none
  ztuple : B.mg "tuple" = none
  zrange : B.mg "range" = none
  zrepr : B.mg "repr" = none
  zve : B.mg "ValueError" = none
  signs : ∃ u, B.mg "SIGNS" = some (.str SG u)
  most : ∃ u, B.mg "MOST_HANDS" = some (.int 8 u)
  text : Xc B "BadText" A.text
  change : Xc B "BadChange" A.change
  fit : Xc B "BadFit" A.fit
  letter : Xc B "BadLetter" A.letter
  gone : Xc B "NoLetter" A.gone
  hand : Xc B "NoHand" A.hand
  ink : B.mg "InkError" = some (.ref A.ink)
  xmc : PySem.W.exmOne B.K (.ref A.change) (.ref A.change) = some true
  xmi : ∀ c ∈ [A.text, A.change, A.fit, A.letter, A.gone, A.hand], PySem.W.exmOne B.K (.ref c) (.ref A.ink) = some true
  rdr : Oc B "Reader" A.rdr ["rest"]
  srv : Oc B "Server" A.srv ["known", "taken", "serials"]
  hnd : Oc B "Hand" A.hnd ["own", "held", "knows", "serial", "flown", "queue", "kept"]
  d_is_whole : Df B "is_whole" s_is_whole
  d_is_text : Df B "is_text" s_is_text
  d_need_text : Df B "need_text" s_need_text
  d_is_part : Df B "is_part" s_is_part
  d_need_change : Df B "need_change" s_need_change
  d_size_of : Df B "size_of" s_size_of
  d_sizes : Df B "sizes" s_sizes
  d_run_of : Df B "run_of" s_run_of
  d_with_keep : Df B "with_keep" s_with_keep
  d_neat : Df B "neat" s_neat
  d_done : Df B "done" s_done
  d_put_past : Df B "put_past" s_put_past
  d_signs_past : Df B "signs_past" s_signs_past
  d_passed : Df B "passed" s_passed
  d_is_change : Df B "is_change" s_is_change
  d_is_number : Df B "is_number" s_is_number
  d_is_ask : Df B "is_ask" s_is_ask
  d_is_again : Df B "is_again" s_is_again
  d_is_took : Df B "is_took" s_is_took
  d_copied : Df B "copied" s_copied
  d_w_cell_at : Df B "_law_cell_at" s_w_cell_at
  d_w_server_refused : Df B "_law_server_refused" s_w_server_refused
  d_w_hand_refused : Df B "_law_hand_refused" s_w_hand_refused
  d_w_made_refused : Df B "_law_made_refused" s_w_made_refused
  d_w_number_refused : Df B "_law_number_refused" s_w_number_refused
  d_w_change_refused : Df B "_law_change_refused" s_w_change_refused
  d_w_no_change : Df B "_law_no_change" s_w_no_change
  d_w_no_ask : Df B "_law_no_ask" s_w_no_ask
  d_w_no_took : Df B "_law_no_took" s_w_no_took
  d_w_unfit : Df B "_law_unfit" s_w_unfit
  d_w_taken : Df B "_law_taken" s_w_taken
  d_w_first_refused : Df B "_law_first_refused" s_w_first_refused
  d_w_others_refused : Df B "_law_others_refused" s_w_others_refused
  d_w_cut : Df B "_law_cut" s_w_cut
  d_w_goes_on : Df B "_law_goes_on" s_w_goes_on
  d_w_own_comes : Df B "_law_own_comes" s_w_own_comes
  d_w_early : Df B "_law_early" s_w_early
  d_w_later : Df B "_law_later" s_w_later
  d_w_letter_comes : Df B "_law_letter_comes" s_w_letter_comes
  m_Reader_init : Mf B A.rdr "__init__" "Reader.__init__" s_Reader_init
  m_Reader_word : Mf B A.rdr "word" "Reader.word" s_Reader_word
  m_Reader_next_size : Mf B A.rdr "next_size" "Reader.next_size" s_Reader_next_size
  m_Reader_cut_off : Mf B A.rdr "cut_off" "Reader.cut_off" s_Reader_cut_off
  m_Server_init : Mf B A.srv "__init__" "Server.__init__" s_Server_init
  m_Server_text : Mf B A.srv "text" "Server.text" s_Server_text
  m_Server_many : Mf B A.srv "many" "Server.many" s_Server_many
  m_Server_change : Mf B A.srv "change" "Server.change" s_Server_change
  m_Server_took : Mf B A.srv "took" "Server.took" s_Server_took
  m_Server_came : Mf B A.srv "came" "Server.came" s_Server_came
  m_Server_take : Mf B A.srv "take" "Server.take" s_Server_take
  m_Hand_init : Mf B A.hnd "__init__" "Hand.__init__" s_Hand_init
  m_Hand_text : Mf B A.hnd "text" "Hand.text" s_Hand_text
  m_Hand_seen : Mf B A.hnd "seen" "Hand.seen" s_Hand_seen
  m_Hand_flight : Mf B A.hnd "flight" "Hand.flight" s_Hand_flight
  m_Hand_asked : Mf B A.hnd "asked" "Hand.asked" s_Hand_asked
  m_Hand_flies : Mf B A.hnd "flies" "Hand.flies" s_Hand_flies
  m_Hand_do : Mf B A.hnd "do" "Hand.do" s_Hand_do
  m_Hand_nudge : Mf B A.hnd "nudge" "Hand.nudge" s_Hand_nudge
  m_Hand_came : Mf B A.hnd "came" "Hand.came" s_Hand_came
  m_Hand_own_taken : Mf B A.hnd "own_taken" "Hand.own_taken" s_Hand_own_taken
  m_Hand_others_taken : Mf B A.hnd "others_taken" "Hand.others_taken" s_Hand_others_taken
end Ink
/-! Ink5 -/
/-! The defs: whole numbers, texts, parts, changes. -/
namespace Ink
open PySem PySem.Spec PyProof.Rows L2
/-! isinstance by the kind of data -/
def isTn (T n : String) : Bool := n == T || (T == "int" && n == "bool")
def isT (T : String) (d : D) : Bool := isTn T (tyD d)
abbrev kinds : List String := ["int", "bool", "str", "tuple", "list"]
theorem kit_all : ∀ T ∈ kinds, ∀ n ∈ ["NoneType", "bool", "int", "str", "tuple", "list", "dict"], kitB n T = some (isTn T n) := by decide +kernel
theorem tyD_mem : ∀ d : D, tyD d ≠ "" → tyD d ∈ ["NoneType", "bool", "int", "str", "tuple", "list", "dict"]
  | .non, _ => by simp [tyD]
  | .bl _, _ => by simp [tyD]
  | .int _, _ => by simp [tyD]
  | .str _, _ => by simp [tyD]
  | .tup _, _ => by simp [tyD]
  | .lst _, _ => by simp [tyD]
  | .dct, _ => by simp [tyD]
  | .ref _, n => absurd rfl n
  | .ty _, n => absurd rfl n
theorem kit_isT {T : String} (h : T ∈ kinds) (d : D) (hn : tyD d ≠ "") (K : PySem.W.Frag) : PySem.W.kitOne K (.type (tyD d)) (.type T) = some (isT T d) := kit_ty (kit_all T h _ (tyD_mem d hn))
theorem isT_inv : ∀ T ∈ kinds, ∀ n ∈ ["NoneType", "bool", "int", "str", "tuple", "list", "dict"], isTn T n = true → n = T ∨ (T = "int" ∧ n = "bool") := by decide +kernel
theorem isT_str {d : D} (hn : tyD d ≠ "") (h : isT "str" d = true) : ∃ x, d = .str x := by
  have e := isT_inv "str" (by decide) _ (tyD_mem d hn) h
  cases d <;> first | exact ⟨_, rfl⟩ | (simp [tyD] at e)
theorem isT_tup {d : D} (hn : tyD d ≠ "") (h : isT "tuple" d = true) : ∃ x, d = .tup x := by
  have e := isT_inv "tuple" (by decide) _ (tyD_mem d hn) h
  cases d <;> first | exact ⟨_, rfl⟩ | (simp [tyD] at e)
theorem isT_lst {d : D} (hn : tyD d ≠ "") (h : isT "list" d = true) : ∃ x, d = .lst x := by
  have e := isT_inv "list" (by decide) _ (tyD_mem d hn) h
  cases d <;> first | exact ⟨_, rfl⟩ | (simp [tyD] at e)
/-- data of a kind that isinstance is asked of -/
def nr : D → Bool
  | .ref _ => false
  | .ty _ => false
  | _ => true
theorem nr_ty : ∀ {d : D}, nr d = true → tyD d ≠ ""
  | .non, _ => by simp [tyD]
  | .bl _, _ => by simp [tyD]
  | .int _, _ => by simp [tyD]
  | .str _, _ => by simp [tyD]
  | .tup _, _ => by simp [tyD]
  | .lst _, _ => by simp [tyD]
  | .dct, _ => by simp [tyD]
  | .ref _, h => nomatch h
  | .ty _, h => nomatch h
section
variable {B : Bs} {A : Ad}
theorem ev_isi {X : Cx} {S : Addr → Prop} {G : Gm} {W W1 : As} {e c : Expr} {d : D} {T : String} {p pos : Pos} (hb : X.mg "isinstance" = none) (h : Ev X S e G W d W1) (hc : Ev X S c G W1 (.ty T) W1) (hs : Stb W1) (hT : T ∈ kinds) (hn : nr d = true) (hg : Gl X "isinstance" := by rfl)
    (h1 : starEach [e, c] X.env = (false, eval e X.env) :: starEach [c] X.env := by rfl) (h2 : starEach [c] X.env = (false, eval c X.env) :: starEach [] X.env := by rfl) (h3 : (backTo pos (starEach [c] X.env)).any (·.1) = false := by rfl) : Ev X S (.Call (.Name "isinstance" p) [e, c] [] pos) G W (.bl (isT T d)) W1 :=
  ev_bi (eva_cons h (eva_cons hc eva_nil h2) h1) (co_isi (nr_ty hn) (kit_isT hT d (nr_ty hn))) hs hb boot_isinstance hg (by decide) (by decide) h1 h3
/-! is_whole -/
def wholeD : D → Bool
  | .int _ => true
  | _ => false
theorem whole_eq (d : D) : (isT "int" d && !isT "bool" d) = wholeD d := by cases d <;> rfl
def R_whole (ds : List D) (r : Res) : Prop := ∃ d, ds = [d] ∧ nr d = true ∧ r = .ok (.bl (wholeD d))
theorem ok_is_whole (T : Txt B A) : Kn B "is_whole" 1 1 R_whole := by
  obtain ⟨f, fd, F, m⟩ := T.d_is_whole
  refine kn_of F m (F.binds fun _ _ _ _ _ _ us hl => match us, hl with | [_], _ => rfl) c_is_whole rfl (by decide) fun cdv A outer s H Q E S ds r hr hl hR hp => ?_
  obtain ⟨d, rfl, hn, rfl⟩ := hR
  have st : Stb (Same H) := stb_same
  refine blk_retR hp (ev_is (ev_and (ev_isi T.zisi (ev_name 0) (ev_cls T.zint boot_int) st (by decide) hn) fun _ => ev_one (ev_not (ev_isi T.zisi (ev_name 0) (ev_cls T.zbool boot_bool) st (by decide) hn))) (congrArg D.bl (whole_eq d))) rfl fun _ w => w
/-! is_text -/
def inSG (c : Nat) : Bool := decide (c ∈ SG.cps.toList)
def textD : D → Bool
  | .str x => x.cps.toList.all inSG
  | _ => false
def smallD : D → Prop
  | .str x => x.length ≤ 1000
  | _ => True
def R_text (ds : List D) (r : Res) : Prop := ∃ d, ds = [d] ∧ nr d = true ∧ smallD d ∧ r = .ok (.bl (textD d))
theorem givenD_all {n : Nat} {v : Nat → D} : givenD n (fun _ => true) v = (List.range n).map v := by
  unfold givenD
  rw [List.filter_eq_self.mpr (by simp)]
theorem map_getD {α β : Type} (l : List α) (a : α) (f : α → β) : (List.range l.length).map (fun i => f (l.getD i a)) = l.map f := by
  apply List.ext_getElem?
  intro i
  rw [List.getElem?_map, List.getElem?_map]
  by_cases h : i < l.length
  · rw [List.getElem?_range h, List.getElem?_eq_getElem h]
    simp [List.getD_eq_getElem?_getD, h]
  · rw [List.getElem?_eq_none (by simpa using h), List.getElem?_eq_none (by omega)]
    rfl
theorem ok_is_text (T : Txt B A) : Kn B "is_text" 1 1 R_text := by
  obtain ⟨f, fd, F, m⟩ := T.d_is_text
  obtain ⟨u, hSG⟩ := T.signs
  refine kn_of F m (F.binds fun _ _ _ _ _ _ us hl => match us, hl with | [_], _ => rfl) c_is_text rfl (by decide) fun cdv A outer s H Q E S ds r hr hl hR hp => ?_
  obtain ⟨d, rfl, hn, hz, rfl⟩ := hR
  have st : Stb (Same H) := stb_same
  refine blk_retR hp (ev_is (ev_and (y := textD d) (ev_isi T.zisi (ev_name 0) (ev_cls T.zstr boot_str) st (by decide) hn) fun h => ev_one ?_) ?_) rfl fun _ w => w
  · obtain ⟨x, rfl⟩ := isT_str (nr_ty hn) h
    have e1 : givenD x.cps.size (fun _ => true) (fun i => D.bl (inSG (x.cps.toList.getD i 0))) = (x.cps.toList.map inSG).map D.bl := by
      rw [givenD_all]
      have := map_getD x.cps.toList 0 (fun c => D.bl (inSG c))
      rw [Array.length_toList] at this
      rw [this, List.map_map]
      rfl
    have e2 : ((x.cps.toList.map inSG).all id) = textD (.str x) := by
      rw [List.all_map]
      rfl
    refine ev_is (ev_bi (eva_cons (ev_is (ev_lc (own := [("sign", 1)]) (g := gName 1) (fun _ => true) (fun i => D.bl (inSG (x.cps.toList.getD i 0))) (ei_str (ev_name 0)) st (Nat.le_trans hz (by decide)) (blkOk_by (N := n_is_text) (sc := defScope s_is_text) (by decide +kernel)) tgt_name (fun _ _ => trivial)
      (fun _ _ _ _ _ => pg_name c_is_text.nd rfl (Or.inl rfl)) (fun i H1 S' s H2 C cl fp hi w sub => ⟨ets_nil, fun _ => ev_cmp (ev_name 1) (ev_glob (v := .str SG) (d := .str SG) hSG ⟨_, rfl⟩ (fun _ _ => rfl)) bo_inC (stb_inL st) rfl⟩) c_is_text.nd) (congrArg D.lst e1)) eva_nil) (co_all rfl) st T.zall boot_all) (congrArg D.bl e2)
  · cases d <;> rfl
end
end Ink
/-! Ink6 -/
/-! The defs: parts, changes. -/
namespace Ink
open PySem PySem.Spec PyProof.Rows L2
local macro_rules | `(tactic| walk_at "op") => `(tactic| first
  | exact bo_add | exact bo_sub | exact bo_lt | exact bo_le | exact bo_gt | exact bo_ge | exact bo_eqI | exact bo_neI | exact bo_eqS | exact bo_neS | exact bo_in2 | exact bo_eq | exact bo_ne)
local macro_rules | `(tactic| walk_at "bi") => `(tactic| first
  | exact co_len_lst | exact co_len_tup | exact co_len_str (by assumption) | exact co_intB | exact co_list_lst)
local macro_rules | `(tactic| walk_at "ix") => `(tactic| first | exact io_tup rfl | exact io_lst rfl)
section
variable {X : Cx} {S : Addr → Prop} {G : Gm} {W W1 : As} {pos : Pos} {a b : Expr} {rest : List Expr} {y : Bool}
/-! and, or where the first answer is known -/
theorem ew_orT (h : EvT X S a G W true W1) : EvW X S (.BoolOp .Or (a :: b :: rest) pos) G W true W1 := ew_or (y := false) h fun z => Bool.noConfusion z
theorem ew_orF (h : EvT X S a G W false W1) (k : EvW X S (.BoolOp .Or (b :: rest) pos) G W1 y W1) : EvW X S (.BoolOp .Or (a :: b :: rest) pos) G W y W1 := ew_or h fun _ => k
theorem ew_andF (h : EvT X S a G W false W1) : EvW X S (.BoolOp .And (a :: b :: rest) pos) G W false W1 := ew_and (y := false) h fun z => Bool.noConfusion z
theorem ew_andT (h : EvT X S a G W true W1) (k : EvW X S (.BoolOp .And (b :: rest) pos) G W1 y W1) : EvW X S (.BoolOp .And (a :: b :: rest) pos) G W y W1 := ew_and h fun _ => k
theorem ev_andF (h : Ev X S a G W (.bl false) W1) : Ev X S (.BoolOp .And (a :: b :: rest) pos) G W (.bl false) W1 := ev_and (y := false) h fun z => Bool.noConfusion z
theorem ev_andT (h : Ev X S a G W (.bl true) W1) (k : Ev X S (.BoolOp .And (b :: rest) pos) G W1 (.bl y) W1) : Ev X S (.BoolOp .And (a :: b :: rest) pos) G W (.bl y) W1 := ev_and h fun _ => k
theorem ew_is {x : Expr} {c c' : Bool} (h : EvW X S x G W c W1) (q : c = c') : EvW X S x G W c' W1 := q ▸ h
theorem Ends.on_nx {E : Ends} {X : Cx} {r : List Stmt} : (Ends.on E X r).nx = fun σ H => WB X r E σ H := rfl
end
section
variable {B : Bs} {A : Ad}
/-! need_text -/
def R_ntext (A : Ad) (ds : List D) (r : Res) : Prop := ∃ d, ds = [d] ∧ nr d = true ∧ smallD d ∧ r = if textD d = true then .ok .non else .exc A.text
theorem ok_need_text (T : Txt B A) : Kn B "need_text" 2 1 (R_ntext A) := by
  obtain ⟨f, fd, F, m⟩ := T.d_need_text
  have k_is_text := ok_is_text T
  refine kn_of F m (F.binds fun _ _ _ _ _ _ us hl => match us, hl with | [_], _ => rfl) c_need_text rfl (by decide) fun cdv A' outer s H Q E S ds r hr hl hR hp => ?_
  obtain ⟨d, rfl, hn, hz, rfl⟩ := hR
  have st : Stb (Same H) := stb_same
  refine blk_if1 (et_not (et_val (ev_call k_is_text hr (eva_cons (ev_name 0) eva_nil) st ⟨d, rfl, hn, hz, rfl⟩))) (fun h => ?_) (fun h => ?_)
  · rw [if_neg (by simpa using h)] at hp
    exact blk_raise tk_cx T.text fun H so w => hp H w
  · rw [if_pos (by simpa using h)] at hp
    exact blk_nil fun σ H t so w => hp .non H w rfl
/-! is_part -/
def keepS : Str := Str.ofString "keep"
def putS : Str := Str.ofString "put"
def cutS' : Str := Str.ofString "cut"
/-- what a part's second thing must be for each word -/
def posB : D → Bool
  | .int n => decide (0 < n)
  | _ => false
def txtB : D → Bool
  | .str x => !decide (x = Str.ofString "") && x.cps.toList.all inSG
  | _ => false
def partW (w : Str) (y : D) : Bool := if w = keepS then posB y else if putS = w ∨ cutS' = w then txtB y else false
def partD : D → Bool
  | .tup [.str w, y] => partW w y
  | _ => false
/-- things that is_part is asked of: behind put and cut stands a small text -/
def isSm : D → Bool
  | .str x => decide (x.length ≤ 1000)
  | _ => false
def okW (w : Str) (y : D) : Bool := nr y && (w == keepS || !(decide (putS = w) || decide (cutS' = w)) || isSm y)
def okPart : D → Bool
  | .tup [.str w, y] => okW w y
  | .tup [x, _] => nr x
  | .ref _ => false
  | .ty _ => false
  | _ => true
def R_part (ds : List D) (r : Res) : Prop := ∃ d, ds = [d] ∧ okPart d = true ∧ r = .ok (.bl (partD d))
theorem okPart_nr : ∀ {d : D}, okPart d = true → nr d = true
  | .non, _ => rfl
  | .bl _, _ => rfl
  | .int _, _ => rfl
  | .str _, _ => rfl
  | .tup _, _ => rfl
  | .lst _, _ => rfl
  | .dct, _ => rfl
  | .ref _, h => nomatch h
  | .ty _, h => nomatch h
theorem isT_tupF {d : D} (h : isT "tuple" d = false) : partD d = false := by
  cases d <;> first | rfl | exact absurd h (by simp [isT, isTn, tyD])
theorem isSm_inv : ∀ {b : D}, isSm b = true → ∃ x, b = .str x ∧ x.length ≤ 1000
  | .str x, h => ⟨x, rfl, of_decide_eq_true h⟩
theorem whole_inv : ∀ {b : D}, wholeD b = true → ∃ i, b = .int i
  | .int i, _ => ⟨i, rfl⟩
theorem len2 {α : Type} {l : List α} (h : (decide ((l.length : Int) = 2)) = true) : ∃ a b, l = [a, b] := by
  have h2 : (l.length : Int) = 2 := of_decide_eq_true h
  match l, h2 with
  | [a, b], _ => exact ⟨a, b, rfl⟩
  | [], h => simp at h
  | [_], h => simp at h
  | _ :: _ :: _ :: _, h => simp at h; omega
theorem partD_len {l : List D} (h : ¬ l.length = 2) : partD (.tup l) = false := by
  unfold partD
  split
  · rename_i e
    injection e with e
    subst e
    exact absurd rfl h
  · rfl
theorem partD_nstr {a b : D} (h : isT "str" a = false) : partD (.tup [a, b]) = false := by
  cases a <;> first | rfl | exact absurd h (by simp [isT, isTn, tyD])
theorem ok_is_part (T : Txt B A) : Kn B "is_part" 2 1 R_part := by
  obtain ⟨f, fd, F, m⟩ := T.d_is_part
  have k_is_text := ok_is_text T
  have k_is_whole := ok_is_whole T
  refine kn_of F m (F.binds fun _ _ _ _ _ _ us hl => match us, hl with | [_], _ => rfl) c_is_part rfl (by decide) fun cdv A' outer s H Q E S ds r hr hl hR hp => ?_
  obtain ⟨d, rfl, hd, rfl⟩ := hR
  have st : Stb (Same H) := stb_same
  have hn := okPart_nr hd
  cases c1 : isT "tuple" d with
  | false =>
    refine blk_if (et_w (ew_orT (et_is (et_not (et_val (ev_isi T.zisi (ev_name 0) (ev_cls T.ztuple boot_tuple) st (by decide) hn))) (congrArg Bool.not c1)))) (fun h => ?_) (fun h => Bool.noConfusion h)
    exact blk_retR hp ev_bl (by rw [isT_tupF c1]) fun _ w => w
  | true =>
    obtain ⟨l, rfl⟩ := isT_tup (nr_ty hn) c1
    by_cases c2 : l.length = 2
    · obtain ⟨a, b, rfl⟩ := len2 (l := l) (decide_eq_true (by omega))
      have hna : nr a = true := by
        cases a <;> first | rfl | exact hd
      cases c3 : isT "str" a with
      | false =>
        refine blk_if (et_w (ew_orF (et_not (et_val (ev_isi T.zisi (ev_name 0) (ev_cls T.ztuple boot_tuple) st (by decide) hn))) (ew_orF (et_cmp (ev_bi (eva_cons (ev_name 0) eva_nil) (by walk_at "bi") st T.zlen boot_len) ev_int (by walk_at "op") st)
          (ew_one_or (et_is (et_not (et_val (ev_isi T.zisi (ev_ix (ev_name 0) ev_int (by walk_at "ix")) (ev_cls T.zstr boot_str) st (by decide) hna))) (congrArg Bool.not c3)))))) (fun h => ?_) (fun h => Bool.noConfusion h)
        exact blk_retR hp ev_bl (by rw [partD_nstr c3]) fun _ w => w
      | true =>
        obtain ⟨w, rfl⟩ := isT_str (nr_ty hna) c3
        refine blk_if (et_w (ew_orF (et_not (et_val (ev_isi T.zisi (ev_name 0) (ev_cls T.ztuple boot_tuple) st (by decide) hn))) (ew_orF (et_cmp (ev_bi (eva_cons (ev_name 0) eva_nil) (by walk_at "bi") st T.zlen boot_len) ev_int (by walk_at "op") st)
          (ew_one_or (et_not (et_val (ev_isi T.zisi (ev_ix (ev_name 0) ev_int (by walk_at "ix")) (ev_cls T.zstr boot_str) st (by decide) hna))))))) (fun h => Bool.noConfusion h) (fun h => blk_on ?_)
        have hw : okW w b = true := hd
        have hnb : nr b = true := by
          unfold okW at hw
          simp only [Bool.and_eq_true] at hw
          exact hw.1
        have hp' : Post S H (.ok (.bl (partW w b))) Q E := hp
        refine blk_if (et_cmp (ev_ix (ev_name 0) ev_int (by walk_at "ix")) ev_str (by walk_at "op") st) (fun h => ?_) (fun h => blk_on ?_)
        · have e : w = keepS := of_decide_eq_true h
          subst e
          refine blk_retR hp' (ev_is (ev_and (y := partW keepS b) (ev_call k_is_whole hr (eva_cons (ev_ix (ev_name 0) ev_int (by walk_at "ix")) eva_nil) st ⟨b, rfl, hnb, rfl⟩) fun h => ev_one ?_) ?_) rfl fun _ w => w
          · obtain ⟨i, rfl⟩ := whole_inv h
            refine ev_is ?_ (congrArg D.bl (show decide (0 < i) = partW keepS (.int i) from (if_pos rfl : partW keepS (.int i) = posB (.int i)).symm))
            exact ev_cmp (ev_ix (ev_name 0) ev_int (by walk_at "ix")) ev_int (by walk_at "op") st
          · have e : partW keepS b = posB b := if_pos rfl
            rw [e]
            cases b <;> rfl
        · have ne : ¬ w = keepS := of_decide_eq_false h
          have e1 : partW w b = ((decide (putS = w) || decide (cutS' = w)) && txtB b) := by
            unfold partW
            rw [if_neg ne]
            by_cases c : putS = w ∨ cutS' = w
            · rw [if_pos c]
              have : (decide (putS = w) || decide (cutS' = w)) = true := by simpa using c
              rw [this, Bool.true_and]
            · rw [if_neg c]
              have : (decide (putS = w) || decide (cutS' = w)) = false := by simpa using c
              rw [this, Bool.false_and]
          rw [e1] at hp'
          refine blk_retR hp' (ev_and (ev_cmp (ev_ix (ev_name 0) ev_int (by walk_at "ix")) (ev_tup (eva_cons ev_str (eva_cons ev_str eva_nil)) st) (by walk_at "op") st rfl) fun h => ?_) rfl fun _ w => w
          have hsm : isSm b = true := by
            unfold okW at hw
            have z : (w == keepS) = false := beq_eq_false_iff_ne.mpr ne
            have h' : (decide (putS = w) || decide (cutS' = w)) = true := h
            rw [z, h'] at hw
            cases hs : isSm b with
            | true => rfl
            | false => rw [hs, hnb] at hw; exact hw
          obtain ⟨x, rfl, hx⟩ := isSm_inv hsm
          exact ev_and (ev_cmp (ev_ix (ev_name 0) ev_int (by walk_at "ix")) ev_str (by walk_at "op") st) fun _ => ev_one (ev_call k_is_text hr (eva_cons (ev_ix (ev_name 0) ev_int (by walk_at "ix")) eva_nil) st ⟨.str x, rfl, rfl, hx, rfl⟩)
    · have e2 : (!decide ((l.length : Int) = 2)) = true := by
        rw [decide_eq_false (by omega)]
        rfl
      refine blk_if (et_w (ew_orF (et_not (et_val (ev_isi T.zisi (ev_name 0) (ev_cls T.ztuple boot_tuple) st (by decide) hn))) (ew_orT (et_is (et_cmp (ev_bi (eva_cons (ev_name 0) eva_nil) (by walk_at "bi") st T.zlen boot_len) ev_int (by walk_at "op") st) e2)))) (fun h => ?_) (fun h => Bool.noConfusion h)
      exact blk_retR hp ev_bl (by rw [partD_len c2]) fun _ w => w
end
end Ink
/-! Ink7 -/
/-! The defs: changes, numbers, letters. -/
namespace Ink
open PySem PySem.Spec PyProof.Rows L2
local macro_rules | `(tactic| walk_at "op") => `(tactic| first
  | exact bo_add | exact bo_sub | exact bo_lt | exact bo_le | exact bo_gt | exact bo_ge | exact bo_eqI | exact bo_neI | exact bo_eqS | exact bo_neS | exact bo_in2 | exact bo_eq | exact bo_ne)
local macro_rules | `(tactic| walk_at "bi") => `(tactic| first
  | exact co_len_lst | exact co_len_tup | exact co_len_str (by assumption) | exact co_intB | exact co_list_lst)
local macro_rules | `(tactic| walk_at "ix") => `(tactic| first | exact io_tup rfl | exact io_lst rfl)
/-! ### changes -/
def wD : D → Str
  | .tup [.str w, _] => w
  | _ => Str.ofString ""
def badW (a b : Str) : Bool := decide (b = a) || (decide (b = putS) && decide (a = cutS'))
def adj : List D → Bool
  | a :: b :: r => !badW (wD a) (wD b) && adj (b :: r)
  | _ => true
def changeD : D → Bool
  | .lst l => l.all partD && adj l
  | _ => false
def okCh : D → Bool
  | .lst l => decide (l.length ≤ 900) && l.all okPart
  | d => nr d
theorem okCh_nr : ∀ {d : D}, okCh d = true → nr d = true
  | .non, _ => rfl
  | .bl _, _ => rfl
  | .int _, _ => rfl
  | .str _, _ => rfl
  | .tup _, _ => rfl
  | .lst _, _ => rfl
  | .dct, _ => rfl
  | .ref _, h => nomatch h
  | .ty _, h => nomatch h
theorem adj_iff : ∀ {l : List D}, adj l = true ↔ ∀ i, i + 1 < l.length → badW (wD (l.getD i .non)) (wD (l.getD (i + 1) .non)) = false
  | [] => ⟨fun _ i h => absurd h (by simp), fun _ => rfl⟩
  | [a] => ⟨fun _ i h => absurd h (by simp), fun _ => rfl⟩
  | a :: b :: r => by
    have ih := adj_iff (l := b :: r)
    unfold adj
    rw [Bool.and_eq_true, ih]
    constructor
    · rintro ⟨h1, h2⟩ i hi
      cases i with
      | zero => simpa using h1
      | succ i => exact h2 i (by simpa using hi)
    · intro h
      refine ⟨by simpa using h 0 (by simp), fun i hi => h (i + 1) (by simpa using hi)⟩
theorem partD_inv : ∀ {d : D}, partD d = true → ∃ w y, d = .tup [.str w, y] ∧ partW w y = true
  | .tup [.str w, y], h => ⟨w, y, rfl, h⟩
theorem getD_of {α : Type} {l : List α} {i : Nat} (a : α) (h : i < l.length) : l[i]? = some (l.getD i a) := by
  rw [List.getD_eq_getElem?_getD, List.getElem?_eq_getElem h]
  rfl
section
variable {B : Bs} {A : Ad}
theorem po_cx {N : List Str} {x : Str} {st : Stmt} {f : Addr} {cdv : Value} {A' : Around} {outer : List Env} {s : Shared} {H : Hp} {E : XK} : PassesOwn (model B.P B.w) (cx B N x st f cdv A' outer s H E).A (cx B N x st f cdv A' outer s H E).env (cx B N x st f cdv A' outer s H E).xe :=
  passes_of (X := cx B N x st f cdv A' outer s H E) rfl
def R_nchange (A : Ad) (ds : List D) (r : Res) : Prop := ∃ d, ds = [d] ∧ okCh d = true ∧ r = if changeD d = true then .ok .non else .exc A.change
theorem isT_lstF {d : D} (h : isT "list" d = false) : changeD d = false := by
  cases d <;> first | rfl | exact absurd h (by simp [isT, isTn, tyD])
theorem ok_need_change (T : Txt B A) : Kn B "need_change" 3 1 (R_nchange A) := by
  obtain ⟨f, fd, F, m⟩ := T.d_need_change
  have k_is_part := ok_is_part T
  refine kn_of F m (F.binds fun _ _ _ _ _ _ us hl => match us, hl with | [_], _ => rfl) c_need_change rfl (by decide) fun cdv A' outer s H Q E S ds r hr hl hR hp => ?_
  obtain ⟨d, rfl, hd, rfl⟩ := hR
  have st : Stb (Same H) := stb_same
  have hn := okCh_nr hd
  have nd := c_need_change.nd
  cases c1 : isT "list" d with
  | false =>
    rw [isT_lstF c1] at hp
    refine blk_if (et_w (ew_orT (et_is (et_not (et_val (ev_isi T.zisi (ev_name 0) (ev_cls T.zlist boot_list) st (by decide) hn))) (congrArg Bool.not c1)))) (fun h => ?_) (fun h => Bool.noConfusion h)
    exact blk_raise tk_cx T.change fun H so w => hp H w
  | true =>
    obtain ⟨l, rfl⟩ := isT_lst (nr_ty hn) c1
    have hd2 : l.length ≤ 900 ∧ l.all okPart = true := by
      have z : (decide (l.length ≤ 900) && l.all okPart) = true := hd
      rw [Bool.and_eq_true] at z
      exact ⟨of_decide_eq_true z.1, z.2⟩
    have e1 : givenD l.length (fun _ => true) (fun i => D.bl (partD (l.getD i .non))) = (l.map partD).map D.bl := by
      rw [givenD_all, map_getD l .non (fun d => D.bl (partD d)), List.map_map]
      rfl
    refine blk_if (et_w (ew_orF (et_not (et_val (ev_isi T.zisi (ev_name 0) (ev_cls T.zlist boot_list) st (by decide) hn))) (ew_one_or (et_not (et_val (ev_bi (eva_cons (ev_is (ev_lc (own := [("part", 1)]) (g := gName 1) (fun _ => true) (fun i => D.bl (partD (l.getD i .non))) (ei_lst (ev_name 0)) st (Nat.le_trans hd2.1 (by decide)) (blkOk_by (N := n_need_change) (sc := defScope s_need_change) (by decide +kernel)) tgt_name (fun _ _ => trivial)
      (fun _ _ _ _ _ => pg_name nd rfl (Or.inl rfl)) (fun i H1 S' s H2 C cl fp hi w sub => ⟨ets_nil, fun _ => ev_call k_is_part hr (eva_cons (ev_name 1) eva_nil) (stb_inL st) ⟨_, rfl, List.all_eq_true.mp hd2.2 _ (List.mem_of_getElem? (getD_of .non hi)), rfl⟩⟩) nd) (congrArg D.lst e1)) eva_nil) (co_all rfl) st T.zall boot_all)))))) (fun h => ?_) (fun h => blk_on ?_)
    · have h2 : changeD (.lst l) = false := by
        have z : (!((l.map partD).all id)) = true := h
        rw [List.all_map] at z
        show (l.all partD && adj l) = false
        have z2 : l.all partD = false := by simpa using z
        rw [z2, Bool.false_and]
      rw [h2] at hp
      exact blk_raise tk_cx T.change fun H so w => hp H w
    · have hall : l.all partD = true := by
        have z : (!((l.map partD).all id)) = false := h
        rw [List.all_map] at z
        simpa using z
      have inv : ∀ i, i < l.length → ∃ w y, l[i]? = some (.tup [.str w, y]) ∧ wD (l.getD i .non) = w := fun i hi => by
        obtain ⟨w, y, e, _⟩ := partD_inv (List.all_eq_true.mp hall _ (List.mem_of_getElem? (getD_of .non hi)))
        exact ⟨w, y, by rw [getD_of .non hi, e], by rw [e]; rfl⟩
      refine blk_forR 2 (fun _ => [some (.lst l), none, none, none]) (fun i H' => Same H H' ∧ ∀ j, j < i → badW (wD (l.getD j .non)) (wD (l.getD (j + 1) .non)) = false) (eva_cons ev_int (eva_cons (ev_bi (eva_cons (ev_name 0) eva_nil) (by walk_at "bi") st T.zlen boot_len) eva_nil))
        (fun σ H' t so w => ⟨t, w, fun j z => absurd z (by omega)⟩) (by omega) (fun i hi => ?_) ?_ nd po_cx T.zrange
      · have hi1 : i + 1 < l.length := by omega
        obtain ⟨w1, y1, g1, q1⟩ := inv i (by omega)
        obtain ⟨w2, y2, g2, q2⟩ := inv (i + 1) hi1
        have st2 : Stb (fun H' => Same H H' ∧ ∀ j, j < i → badW (wD (l.getD j .non)) (wD (l.getD (j + 1) .non)) = false) := fun _ _ a b => ⟨a.1.trans b, a.2⟩
        refine blk_set 3 (ev_ix (ev_ix (ev_name 0) (ev_name 2) (io_lst (atI_of (by omega) g2))) ev_int (by walk_at "ix")) ?_ nd
        refine blk_if1 (et_w (ew_or (et_cmp (ev_name 3) (ev_ix (ev_ix (ev_name 0) (ev_bin (ev_name 2) ev_int (by walk_at "op") st2) (io_lst (atI_of (by omega) g1))) ev_int (by walk_at "ix")) (by walk_at "op") st2) fun h => (ew_one_or (et_w (ew_and (et_cmp (ev_name 3) ev_str (by walk_at "op") st2) fun h => (ew_one_and (et_cmp (ev_ix (ev_ix (ev_name 0) (ev_bin (ev_name 2) ev_int (by walk_at "op") st2) (io_lst (atI_of (by omega) g1))) ev_int (by walk_at "ix")) ev_str (by walk_at "op") st2))))))) (fun h => ?_) (fun h => ?_)
        · have h2 : badW (wD (l.getD i .non)) (wD (l.getD (i + 1) .non)) = true := by
            rw [q1, q2]
            exact h
          have h3 : changeD (.lst l) = false := by
            show (l.all partD && adj l) = false
            cases c : adj l with
            | false => rw [Bool.and_false]
            | true =>
              rw [adj_iff.mp c i hi1] at h2
              exact Bool.noConfusion h2
          rw [h3] at hp
          exact blk_raise tk_cx T.change fun H so w => hp H w.1
        · have h2 : badW (wD (l.getD i .non)) (wD (l.getD (i + 1) .non)) = false := by
            rw [q1, q2]
            exact h
          refine blk_nil fun σ H' t so w => ⟨(t.forget 2).forget 3, so, w.1, fun j hj => ?_⟩
          by_cases c : j = i
          · rw [c]
            exact h2
          · exact w.2 j (by omega)
      · refine blk_nil fun σ H' t so w => ?_
        have h3 : changeD (.lst l) = true := by
          show (l.all partD && adj l) = true
          rw [hall, Bool.true_and]
          exact adj_iff.mpr fun i hi => w.2 i (by omega)
        rw [h3] at hp
        exact hp .non H' w.1 rfl
/-! size_of -/
def sizeD : D → Int
  | .str x => (x.length : Int)
  | .int i => i
  | _ => 0
def okSz : D → Bool
  | .str x => decide (x.length ≤ 1000)
  | .int _ => true
  | _ => false
def R_size (ds : List D) (r : Res) : Prop := ∃ d, ds = [d] ∧ okSz d = true ∧ r = .ok (.int (sizeD d))
theorem ok_size_of (T : Txt B A) : Kn B "size_of" 1 1 R_size := by
  obtain ⟨f, fd, F, m⟩ := T.d_size_of
  refine kn_of F m (F.binds fun _ _ _ _ _ _ us hl => match us, hl with | [_], _ => rfl) c_size_of rfl (by decide) fun cdv A' outer s H Q E S ds r hr hl hR hp => ?_
  obtain ⟨d, rfl, hd, rfl⟩ := hR
  have st : Stb (Same H) := stb_same
  cases d <;> first | exact absurd hd Bool.false_ne_true | skip
  · refine blk_if (et_val (ev_isi T.zisi (ev_name 0) (ev_cls T.zstr boot_str) st (by decide) rfl)) (fun h => Bool.noConfusion h) (fun h => blk_on ?_)
    exact blk_retR hp (ev_name 0) rfl fun _ w => w
  · rename_i x
    have hx : x.length ≤ 1000 := of_decide_eq_true hd
    refine blk_if (et_val (ev_isi T.zisi (ev_name 0) (ev_cls T.zstr boot_str) st (by decide) rfl)) (fun h => ?_) (fun h => Bool.noConfusion h)
    exact blk_retR hp (ev_bi (eva_cons (ev_name 0) eva_nil) (by walk_at "bi") st T.zlen boot_len) rfl fun _ w => w
/-! is_change -/
def R_change (ds : List D) (r : Res) : Prop := ∃ d, ds = [d] ∧ okCh d = true ∧ r = .ok (.bl (changeD d))
theorem ty_any {S : Addr → Prop} {H : Hp} {σ : L2.St} {n : Nat} (h : σ.length = n) : Ty S H σ (List.replicate n none) := ⟨by rw [List.length_replicate]; exact h, fun i d e => by
  rw [List.getElem?_replicate] at e
  split at e
  · cases e
  · cases e⟩
theorem ok_is_change (T : Txt B A) : Kn B "is_change" 4 1 R_change := by
  obtain ⟨f, fd, F, m⟩ := T.d_is_change
  have k_need_change := ok_need_change T
  refine kn_of F m (F.binds fun _ _ _ _ _ _ us hl => match us, hl with | [_], _ => rfl) c_is_change rfl (by decide) fun cdv A' outer s H Q E S ds r hr hl hR hp => ?_
  obtain ⟨d, rfl, hd, rfl⟩ := hR
  have st : Stb (Same H) := stb_same
  refine blk_try T.change.g fun pn xe tk po => ?_
  cases c : changeD d with
  | true =>
    rw [c] at hp
    refine blk_expr (ev_call k_need_change hr (eva_cons (ev_name 0) eva_nil) st ⟨d, rfl, hd, by rw [c]; rfl⟩) (blk_on ?_)
    exact blk_retR hp ev_bl rfl fun _ w => w
  | false =>
    rw [c] at hp
    refine blk_exprX tk (evx_call k_need_change hr (eva_cons (ev_name 0) eva_nil) st ⟨d, rfl, hd, by rw [c]; rfl⟩) fun H' so w => ⟨T.xmc, fun a oe pn σ hl na hz hv => ?_⟩
    exact (blk_ret ev_bl fun v H2 so w p => hp v H2 w p : Blk _ S _ _ (List.replicate 1 none) (Same H)) σ H' (ty_any hl) so w
/-! is_number -/
def numB (d : D) (lo hi : Int) : Bool := match d with
  | .int i => decide (lo ≤ i) && decide (i ≤ hi)
  | _ => false
def R_number (ds : List D) (r : Res) : Prop := ∃ d lo hi, ds = [d, .int lo, .int hi] ∧ nr d = true ∧ r = .ok (.bl (numB d lo hi))
theorem ok_is_number (T : Txt B A) : Kn B "is_number" 2 3 R_number := by
  obtain ⟨f, fd, F, m⟩ := T.d_is_number
  have k_is_whole := ok_is_whole T
  refine kn_of F m (F.binds fun _ _ _ _ _ _ us hl => match us, hl with | [_, _, _], _ => rfl) c_is_number rfl (by decide) fun cdv A' outer s H Q E S ds r hr hl hR hp => ?_
  obtain ⟨d, lo, hi, rfl, hn, rfl⟩ := hR
  have st : Stb (Same H) := stb_same
  refine blk_retR hp (ev_is (ev_and (y := numB d lo hi) (ev_call k_is_whole hr (eva_cons (ev_name 0) eva_nil) st ⟨d, rfl, hn, rfl⟩) fun h => ?_) ?_) rfl fun _ w => w
  · obtain ⟨i, rfl⟩ := whole_inv h
    exact ev_one (ev_chain (ev_name 1) (ev_name 0) (by walk_at "op") (ev_name 2) (by walk_at "op") st)
  · cases d <;> rfl
end
end Ink
/-! Ink8 -/
/-! The D-layer: promises about objects that change, methods, fields stored, new objects. -/
namespace Ink
open PySem PySem.Spec PyProof.Rows L2

abbrev Set' := Addr → Prop
/-- a promise: from an assertion W and data to a result and an assertion W', while only M changes -/
abbrev Trn := Set' → As → List D → Res → As → Set' → Prop
def PostW (S : Set') (H : Hp) (r : Res) (W' : As) (M : Set') (Q : VK) (E : XK) : Prop :=
  match r with
  | .ok d => ∀ v H', Kept M H H' → W' H' → Dat S H' v d → Q v H'
  | .exc c => ∀ H', Kept M H H' → W' H' → E (.ref c) none H'
def spW (n : Nat) (Tr : Trn) : Sp := fun vs H Q E => ∃ S W ds r W' M, SOk S H ∧ DatL S H vs ds ∧ ds.length = n ∧ W H ∧ Tr S W ds r W' M ∧ (∀ a, M a → S a) ∧ PostW S H r W' M Q E
/-- a method of the class at C -/
def KM (B : Bs) (C : Addr) (m : Str) (k : Nat) (sp : Sp) : Prop := ∃ f fd ps, FnOk B.P B.w B.K B.mg B.base (CXN B) k f fd ps sp ∧ Meth B.K C m f ∧ Binds B.K fd ps []
theorem spW_len {n : Nat} {Tr : Trn} {vs : List V} {H : Hp} {Q : VK} {E : XK} (h : spW n Tr vs H Q E) : vs.length = n := by
  obtain ⟨S, W, ds, r, W', M, _, hd, hl, _⟩ := h
  rw [hd.len, hl]
/-- the start of a body -/
theorem body_start {B : Bs} {q : Str} {st : Stmt} {N : List Str} {n : Nat} {Tr : Trn} {f : Addr} {cdv : Value} {A : Around} {outer : List Env} {s : Shared} {H : Hp} {vs : List V} {Q : VK} {E : XK} (h : spW n Tr vs H Q E) (hN : n ≤ N.length)
    (body : ∀ (S : Set') (W : As) (ds : List D) (r : Res) (W' : As) (M : Set'), SOk S H → ds.length = n → Tr S W ds r W' M → (∀ a, M a → S a) → PostW S H r W' M Q E →
      Blk (cx B N q st f cdv A outer s H E) S (defBody st) { nx := fun _ H' => Q .non H', rt := Q } (ds.map some ++ List.replicate (N.length - n) none) (fun H' => Kept M H H' ∧ W H')) :
    WB (cx B N q st f cdv A outer s H E) (defBody st) { nx := fun _ H' => Q .non H', rt := Q } (L2.start N vs) H := by
  obtain ⟨S, W, ds, r, W', M, so, hd, hl, hw, tr, hM, hp⟩ := h
  have t := ty_start (N := N) hd (by rw [hl]; exact hN)
  rw [hl] at t
  exact body S W ds r W' M so hl tr hM hp _ H t so ⟨Kept.refl H, hw⟩
theorem kw_of {B : Bs} {x : Str} {st : Stmt} {f : Addr} {fd : FuncData} {N ps : List Str} {k n : Nat} {Tr : Trn} (F : Fun B.K x x st f fd) (m : B.mg x = some (.ref f)) (hb : Binds B.K fd ps []) (sc : FnScope N ps (defScope st)) (hn : n = ps.length) (hN : n ≤ N.length)
    (body : ∀ (cdv : Value) (A : Around) (outer : List Env) (s : Shared) (H : Hp) (Q : VK) (E : XK), Room k (cx B N x st f cdv A outer s H E).A → ∀ (S : Set') (W : As) (ds : List D) (r : Res) (W' : As) (M : Set'), SOk S H → ds.length = n → Tr S W ds r W' M → (∀ a, M a → S a) → PostW S H r W' M Q E →
      Blk (cx B N x st f cdv A outer s H E) S (defBody st) { nx := fun _ H' => Q .non H', rt := Q } (ds.map some ++ List.replicate (N.length - n) none) (fun H' => Kept M H H' ∧ W H')) : Kd B x (k + 1) (spW n Tr) :=
  kd_of F m hb sc (fun vs H Q E h => (spW_len h).trans hn) fun cdv A outer s H vs Q E hr h => body_start h hN (body cdv A outer s H Q E hr)
theorem km_of {B : Bs} {C : Addr} {x q : Str} {st : Stmt} {f : Addr} {fd : FuncData} {N ps : List Str} {k n : Nat} {Tr : Trn} (F : Fun B.K x q st f fd) (m : Meth B.K C x f) (hb : Binds B.K fd ps []) (sc : FnScope N ps (defScope st)) (hn : n = ps.length) (hN : n ≤ N.length)
    (body : ∀ (cdv : Value) (A : Around) (outer : List Env) (s : Shared) (H : Hp) (Q : VK) (E : XK), Room k (cx B N q st f cdv A outer s H E).A → ∀ (S : Set') (W : As) (ds : List D) (r : Res) (W' : As) (M : Set'), SOk S H → ds.length = n → Tr S W ds r W' M → (∀ a, M a → S a) → PostW S H r W' M Q E →
      Blk (cx B N q st f cdv A outer s H E) S (defBody st) { nx := fun _ H' => Q .non H', rt := Q } (ds.map some ++ List.replicate (N.length - n) none) (fun H' => Kept M H H' ∧ W H')) : KM B C x (k + 1) (spW n Tr) := by
  obtain ⟨oc, od, kV, doc, pm, an, cdv, ct, osl, e, lk, hcd⟩ := F.ex
  refine ⟨f, fd, ps, ?_, m, hb⟩
  subst e
  exact fn_of lk hcd sc (fun vs H Q E h => (spW_len h).trans hn) fun A outer s H vs Q E hr h => body_start h hN (body cdv A outer s H Q E hr)

/-- a change of one tracked object of S -/
theorem kept_upd {S : Set'} {H : Hp} {a : Addr} {ob : HO} (hS : S a) : Kept S H (upd H a ob) := by
  refine ⟨fun b o q nb => ?_, fun b q => ?_⟩
  · have z : b ≠ a := fun z => nb (by rw [z]; exact hS)
    rw [upd_ne z]
    exact q
  · by_cases z : b = a
    · rw [z, upd_same] at q
      cases q
    · rw [upd_ne z] at q
      exact q
section
variable {X : Cx} {S M : Set'} {G : Gm} {W W1 W2 W3 W' Wm Wm' F : As} {pos apos pos' : Pos} {o e v : Expr} {es : List Expr} {d : D} {ds : List D} {p C c : Addr} {m x f : Str} {k j n : Nat} {Tr : Trn} {rest : List Stmt} {E : Ends}
/-- what a caller makes of a promise: it holds Wm and F, F lives off M -/
structure Use (S : Set') (W : As) (Tr : Trn) (ds : List D) (r : Res) (W' : As) : Prop where
  ex : ∃ (Wm Wm' F : As) (M : Set'), Tr S Wm ds r Wm' M ∧ (∀ a, M a → S a) ∧ (∀ H, W H → Wm H ∧ F H) ∧ (∀ H H', F H → Kept M H H' → F H') ∧ (∀ H, Wm' H → F H → W' H)
theorem use_of (tr : Tr S Wm ds r Wm' M) (hM : ∀ a, M a → S a) (hF : ∀ H H', F H → Kept M H H' → F H') : Use S (fun H => Wm H ∧ F H) Tr ds r (fun H => Wm' H ∧ F H) := ⟨Wm, Wm', F, M, tr, hM, fun _ h => h, hF, fun _ a b => ⟨a, b⟩⟩
theorem ev_callW {pf : Pos} (h : Kd (bsOf X) x k (spW n Tr)) (hr : Room j X.A) (ha : EvA X S (e :: es) G W ds W1) (u : Use S W1 Tr ds (.ok d) W') (hn : ds.length = n := by rfl) (hj : k ≤ j := by decide) (hg : Gl X x := by rfl)
    (hdb : (x == ("__debug__" : Str)) = false := by decide) (he : starEach (e :: es) X.env = (false, eval e X.env) :: starEach es X.env := by rfl) (hpl : (backTo pos (starEach es X.env)).any (·.1) = false := by rfl) : Ev X S (.Call (.Name x pf) (e :: es) [] pos) G W d W' := fun σ H ty so w Q q => by
  obtain ⟨f, fd, ps, FF, hm, hk, hb⟩ := h
  obtain ⟨Wm, Wm', F, M, tr, hM, h1, h2, h3⟩ := u.ex
  exact ⟨_, pe_callS FF (hr.mono hj) hg hm hk hb (fun σ => pass_f) wa_pa hdb he hpl, ha σ H ty so w _ fun vs H1 k1 w1 p1 => ⟨S, Wm, ds, .ok d, Wm', M, so.kept k1, p1, hn, (h1 H1 w1).1, tr, hM, fun v H2 k2 w2 p2 => q v H2 (k1.trans (k2.weak hM)) (h3 H2 w2 (h2 H1 H2 (h1 H1 w1).2 k2)) p2⟩⟩
theorem evx_callW {pf : Pos} (h : Kd (bsOf X) x k (spW n Tr)) (hr : Room j X.A) (ha : EvA X S (e :: es) G W ds W1) (u : Use S W1 Tr ds (.exc c) W') (hn : ds.length = n := by rfl) (hj : k ≤ j := by decide) (hg : Gl X x := by rfl)
    (hdb : (x == ("__debug__" : Str)) = false := by decide) (he : starEach (e :: es) X.env = (false, eval e X.env) :: starEach es X.env := by rfl) (hpl : (backTo pos (starEach es X.env)).any (·.1) = false := by rfl) : EvX X S (.Call (.Name x pf) (e :: es) [] pos) G W c W' := fun σ H ty so w Ex tk q Q => by
  obtain ⟨f, fd, ps, FF, hm, hk, hb⟩ := h
  obtain ⟨Wm, Wm', F, M, tr, hM, h1, h2, h3⟩ := u.ex
  exact ⟨_, pe_callS FF (hr.mono hj) hg hm hk hb (fun σ pins H s e s' I c => pass_x tk pins σ H s e s' I c) (E := fun _ => wish Ex) wa_pa hdb he hpl, ha σ H ty so w _ fun vs H1 k1 w1 p1 => ⟨S, Wm, ds, .exc c, Wm', M, so.kept k1, p1, hn, (h1 H1 w1).1, tr, hM, fun H2 k2 w2 => ⟨c, rfl, rfl, q H2 (k1.trans (k2.weak hM)) (h3 H2 w2 (h2 H1 H2 (h1 H1 w1).2 k2))⟩⟩⟩
/-- an instance at p that has no attribute m of its own -/
def Ins (C p : Addr) (m : Str) (H : Hp) : Prop := ∃ dx fs, H p = some (.ins C dx fs) ∧ fs.lookup m = none
theorem ev_meth {pl : Sem Bool} (h : KM (bsOf X) C m k (spW n Tr)) (cl : Cls X.K C) (hr : Room j X.A) (ho : Ev X S o G W (.ref p) W1) (hi : ∀ H, W1 H → Ins C p m H) (ha : EvA X S (e :: es) G W1 ds W2) (u : Use S W2 Tr (.ref p :: ds) (.ok d) W') (hn : (D.ref p :: ds).length = n := by rfl) (hj : k ≤ j := by decide)
    (hst : starEach (e :: es) X.env = (false, eval e X.env) :: starEach es X.env := by rfl) (hpl : (backTo pos (starEach es X.env)).any (·.1) = false := by rfl)
    (ht : eval (.Call (.Attribute o m apos) (e :: es) [] pos) X.env = (do
      let ov ← eval o X.env
      standAt apos.atName
      let (f, first) ← holding [ov] (getMethod ov m pl)
      callWith pos f first (backTo pos (starEach (e :: es) X.env)) (backToKw pos (keywordEach [] X.env))) := by rfl) : Ev X S (.Call (.Attribute o m apos) (e :: es) [] pos) G W d W' := fun σ H ty so w Q q => by
  obtain ⟨f, fd, ps, FF, hm, hb⟩ := h
  obtain ⟨Wm, Wm', F, M, tr, hM, h1, h2, h3⟩ := u.ex
  refine ⟨_, pe_meth we_pe cl hm FF (hr.mono hj) hb .nil pass_fa wa_pa hst hpl ht, ho σ H ty so w _ fun v H1 k1 w1 p1 => ?_⟩
  obtain ⟨dx, fs, e1, e2⟩ := hi H1 w1
  cases (show v = .ref p from p1)
  refine ⟨p, dx, fs, rfl, e1, e2, ha σ H1 (ty.kept k1) (so.kept k1) w1 _ fun vs H2 k2 w2 p2 => ?_⟩
  rw [List.append_nil]
  exact ⟨S, Wm, .ref p :: ds, .ok d, Wm', M, so.kept (k1.trans k2), ⟨_, vs, rfl, rfl, p2⟩, hn, (h1 H2 w2).1, tr, hM, fun v H3 k3 w3 p3 => q v H3 ((k1.trans k2).trans (k3.weak hM)) (h3 H3 w3 (h2 H2 H3 (h1 H2 w2).2 k3)) p3⟩
theorem evx_meth {pl : Sem Bool} (h : KM (bsOf X) C m k (spW n Tr)) (cl : Cls X.K C) (hr : Room j X.A) (ho : Ev X S o G W (.ref p) W1) (hi : ∀ H, W1 H → Ins C p m H) (ha : EvA X S (e :: es) G W1 ds W2) (u : Use S W2 Tr (.ref p :: ds) (.exc c) W') (hn : (D.ref p :: ds).length = n := by rfl) (hj : k ≤ j := by decide)
    (hst : starEach (e :: es) X.env = (false, eval e X.env) :: starEach es X.env := by rfl) (hpl : (backTo pos (starEach es X.env)).any (·.1) = false := by rfl)
    (ht : eval (.Call (.Attribute o m apos) (e :: es) [] pos) X.env = (do
      let ov ← eval o X.env
      standAt apos.atName
      let (f, first) ← holding [ov] (getMethod ov m pl)
      callWith pos f first (backTo pos (starEach (e :: es) X.env)) (backToKw pos (keywordEach [] X.env))) := by rfl) : EvX X S (.Call (.Attribute o m apos) (e :: es) [] pos) G W c W' := fun σ H ty so w Ex tk q Q => by
  obtain ⟨f, fd, ps, FF, hm, hb⟩ := h
  obtain ⟨Wm, Wm', F, M, tr, hM, h1, h2, h3⟩ := u.ex
  refine ⟨_, pe_meth we_pe cl hm FF (hr.mono hj) hb .nil (pass_x tk) wa_pa hst hpl ht, ho σ H ty so w _ fun v H1 k1 w1 p1 => ?_⟩
  obtain ⟨dx, fs, e1, e2⟩ := hi H1 w1
  cases (show v = .ref p from p1)
  refine ⟨p, dx, fs, rfl, e1, e2, ha σ H1 (ty.kept k1) (so.kept k1) w1 _ fun vs H2 k2 w2 p2 => ?_⟩
  rw [List.append_nil]
  exact ⟨S, Wm, .ref p :: ds, .exc c, Wm', M, so.kept (k1.trans k2), ⟨_, vs, rfl, rfl, p2⟩, hn, (h1 H2 w2).1, tr, hM, fun H3 k3 w3 => ⟨c, rfl, rfl, q H3 ((k1.trans k2).trans (k3.weak hM)) (h3 H3 w3 (h2 H2 H3 (h1 H2 w2).2 k3))⟩⟩
theorem ev_meth0 {pl : Sem Bool} (h : KM (bsOf X) C m k (spW 1 Tr)) (cl : Cls X.K C) (hr : Room j X.A) (ho : Ev X S o G W (.ref p) W1) (hi : ∀ H, W1 H → Ins C p m H) (u : Use S W1 Tr [.ref p] (.ok d) W') (hj : k ≤ j := by decide)
    (ht : eval (.Call (.Attribute o m apos) [] [] pos) X.env = (do
      let ov ← eval o X.env
      standAt apos.atName
      let (f, first) ← holding [ov] (getMethod ov m pl)
      callWith pos f first (backTo pos (starEach [] X.env)) (backToKw pos (keywordEach [] X.env))) := by rfl) : Ev X S (.Call (.Attribute o m apos) [] [] pos) G W d W' := fun σ H ty so w Q q => by
  obtain ⟨f, fd, ps, FF, hm, hb⟩ := h
  obtain ⟨Wm, Wm', F, M, tr, hM, h1, h2, h3⟩ := u.ex
  refine ⟨_, pe_meth0 we_pe cl hm FF (hr.mono hj) hb .nil pass_fa ht, ho σ H ty so w _ fun v H1 k1 w1 p1 => ?_⟩
  obtain ⟨dx, fs, e1, e2⟩ := hi H1 w1
  cases (show v = .ref p from p1)
  refine ⟨p, dx, fs, rfl, e1, e2, ?_⟩
  exact ⟨S, Wm, [.ref p], .ok d, Wm', M, so.kept k1, ⟨_, [], rfl, rfl, rfl⟩, rfl, (h1 H1 w1).1, tr, hM, fun v H3 k3 w3 p3 => q v H3 (k1.trans (k3.weak hM)) (h3 H3 w3 (h2 H1 H3 (h1 H1 w1).2 k3)) p3⟩
/-- o.f = v: the instance at p changes -/
theorem blk_fld (hv : Ev X S v G W d W1) (ho : Ev X S o G W1 (.ref p) W1) (cl : Cls X.K C) (nf : NoAttr X.K C f)
    (hi : ∀ H y, SOk S H → W1 H → Dat S H y d → ∃ dx fs, H p = some (.ins C dx fs) ∧ fs.length < 1000 ∧ S p ∧ W' (upd H p (.ins C dx (putF f y fs)))) (k : Blk X S rest E G W') (hs : swapsWith v (some (.Attribute o f pos')) pos.line X.env = pure false := by rfl) :
    Blk X S (.Assign [.Attribute o f pos'] v pos :: rest) E G W := fun σ H ty so w => by
  refine ⟨_, pss_cons (ps_fld we_pe we_pe hs) wb_pss, hv σ H ty so w _ fun y H1 k1 w1 p1 => ho σ H1 (ty.kept k1) (so.kept k1) w1 _ fun u H2 k2 w2 p2 => ?_⟩
  obtain ⟨dx, fs, e1, e2, e3, e4⟩ := hi H2 y (so.kept (k1.trans k2)) w2 (p1.kept k2)
  cases (show u = .ref p from p2)
  have k3 : Kept S H2 (upd H2 p (.ins C dx (putF f y fs))) := kept_upd e3
  exact ⟨p, C, dx, fs, rfl, e1, cl, nf, e2, k σ _ (ty.kept ((k1.trans k2).trans k3)) (so.kept ((k1.trans k2).trans k3)) e4⟩
/-- a method of a built-in type that changes an object of S -/
structure MdO (X : Cx) (S : Set') (T id : String) (W : As) (dx : D) (ds : List D) (d : D) (W' : As) : Prop where
  ex : ∃ r, MtR X id r ∧ ∀ (H : Hp) (x : V) (vs : List V), SOk S H → W H → Dat S H x dx → DatL S H vs ds → ∀ Q : VK, (∀ v H', Kept S H H' → W' H' → Dat S H' v d → Q v H') → r x vs H Q
theorem ev_bm {T id : String} {dx : D} {name : Str} {cpos : Pos} (pa : PlainAttrs T) (slot : Slot T name id) (hty : typeOf (.builtin id) = pure (.type "method_descriptor")) (ho : Ev X S o G W dx W1) (ht : ∀ H x, W1 H → Dat S H x dx → tyV X.K T x H) (ha : EvA X S (e :: es) G W1 ds W2) (hm : MdO X S T id W2 dx ds d W')
    (hbase : attributeBase o name X.env (eval o X.env) = eval o X.env := by rfl)
    (hfew : ((backTo cpos (starEach (e :: es) X.env)).all (fun x => !x.1) && (backToKw cpos (keywordEach [] X.env)).all (fun x => x.1.isSome)
      && decide ((e :: es).length + ([] : List Keyword).length + (if ([] : List Keyword).isEmpty then 0 else 1) < 30)) = true := by rfl)
    (hline : (apos.endLine == cpos.line) = true := by rfl) (hs : starEach (e :: es) X.env = (false, eval e X.env) :: starEach es X.env := by rfl) (hplain : (backTo cpos (starEach es X.env)).any (·.1) = false := by rfl) :
    Ev X S (.Call (.Attribute o name apos) (e :: es) [] cpos) G W d W' := fun σ H ty so w Q q => by
  obtain ⟨r, hr, h⟩ := hm.ex
  exact ⟨_, pe_bm pa slot hty hr we_pe wa_pa hbase hfew hline hs hplain, ho σ H ty so w _ fun x H1 k1 w1 p1 => ⟨ht H1 x w1 p1, ha σ H1 (ty.kept k1) (so.kept k1) w1 _ fun vs H2 k2 w2 p2 => h H2 x vs (so.kept (k1.trans k2)) w2 (p1.kept k2) p2 Q fun v H3 k3 w3 p3 => q v H3 ((k1.trans k2).trans k3) w3 p3⟩⟩
/-- l.append(x), l a list of S -/
theorem ev_app {a : Addr} {name : Str} {cpos : Pos} (ho : Ev X S o G W (.ref a) W1) (he : Ev X S e G W1 d W2) (hl : ∀ H, SOk S H → W1 H → ∃ xs, H a = some (.lst xs)) (hu : ∀ H v xs, SOk S H → W2 H → Dat S H v d → H a = some (.lst xs) → S a ∧ xs.length < 100000 ∧ W' (upd H a (.lst (xs ++ [v])))) (hl2 : ∀ H, SOk S H → W2 H → ∃ xs, H a = some (.lst xs))
    (hbase : attributeBase o "append" X.env (eval o X.env) = eval o X.env := by rfl)
    (hfew : ((backTo cpos (starEach [e] X.env)).all (fun x => !x.1) && (backToKw cpos (keywordEach [] X.env)).all (fun x => x.1.isSome)
      && decide ([e].length + ([] : List Keyword).length + (if ([] : List Keyword).isEmpty then 0 else 1) < 30)) = true := by rfl)
    (hline : (apos.endLine == cpos.line) = true := by rfl) (hs : starEach [e] X.env = (false, eval e X.env) :: starEach [] X.env := by rfl) (hplain : (backTo cpos (starEach [] X.env)).any (·.1) = false := by rfl) :
    Ev X S (.Call (.Attribute o "append" apos) [e] [] cpos) G W .non W' := fun σ H ty so w Q q =>
  ⟨_, pe_bm PySem.F.plainAttrs_list PySem.F.slot_list_append PySem.F.type_list_append mt_append we_pe (pa_cons we_pe pa_nil hs) hbase hfew hline hs hplain, ho σ H ty so w _ fun x H1 k1 w1 p1 => by
    obtain ⟨xs, hx⟩ := hl H1 (so.kept k1) w1
    cases (show x = .ref a from p1)
    refine ⟨.inl ⟨rfl, xs, SqL.of hx⟩, he σ H1 (ty.kept k1) (so.kept k1) w1 _ fun v H2 k2 w2 p2 => ?_⟩
    obtain ⟨ys, hy⟩ := hl2 H2 (so.kept (k1.trans k2)) w2
    obtain ⟨hS, hz, hw⟩ := hu H2 v ys (so.kept (k1.trans k2)) w2 p2 hy
    exact ⟨a, ys, v, rfl, rfl, hy, Nat.lt_of_lt_of_le hz (by decide), q _ _ ((k1.trans k2).trans (kept_upd hS)) hw rfl⟩⟩
end
end Ink
/-! Ink9 -/
/-! The defs: letters, sizes, done. -/
namespace Ink
open PySem PySem.Spec PyProof.Rows L2
local macro_rules | `(tactic| walk_at "op") => `(tactic| first
  | exact bo_add | exact bo_sub | exact bo_lt | exact bo_le | exact bo_gt | exact bo_ge | exact bo_eqI | exact bo_neI | exact bo_eqS | exact bo_neS | exact bo_in2 | exact bo_eq | exact bo_ne)
local macro_rules | `(tactic| walk_at "bi") => `(tactic| first
  | exact co_len_lst | exact co_len_tup | exact co_len_str (by assumption) | exact co_intB | exact co_list_lst)
local macro_rules | `(tactic| walk_at "ix") => `(tactic| first | exact io_tup rfl | exact io_lst rfl)
def askS : Str := Str.ofString "ask"
def againS : Str := Str.ofString "again"
def tookS : Str := Str.ofString "took"
/-! ### letters -/
def askD (l : List D) (h m : Int) : Bool := match l with
  | [.str w, a, s, t, c] => decide (w = askS) && (numB a 0 (h - 1) && (wholeD s && (posB s && (numB t 0 m && changeD c))))
  | _ => false
def isStr : D → Bool
  | .str _ => true
  | _ => false
def okL5 : List D → Bool
  | [w, a, s, t, c] => isStr w && (nr a && (nr s && (nr t && okCh c)))
  | _ => true
def againD (l : List D) (h m : Int) : Bool := match l with
  | [.str w, a, t] => decide (w = againS) && (numB a 0 (h - 1) && numB t 0 m)
  | _ => false
def isFl : D → Bool
  | .str _ => true
  | .int _ => true
  | _ => false
def okL3 : List D → Bool
  | [w, a, t] => isFl w && (nr a && nr t)
  | _ => true
theorem isStr_inv : ∀ {d : D}, isStr d = true → ∃ w, d = .str w
  | .str w, _ => ⟨w, rfl⟩
theorem notT {b : Bool} (h : (!b) = true) : b = false := by
  cases b
  · rfl
  · exact h.symm
theorem notF {b : Bool} (h : (!b) = false) : b = true := by
  cases b
  · exact h.symm
  · rfl
theorem askD_eq {w : Str} {a s t c : D} {h m : Int} : askD [.str w, a, s, t, c] h m = (decide (w = askS) && (numB a 0 (h - 1) && (wholeD s && (posB s && (numB t 0 m && changeD c))))) := rfl
theorem againD_eq {w : Str} {a t : D} {h m : Int} : againD [.str w, a, t] h m = (decide (w = againS) && (numB a 0 (h - 1) && numB t 0 m)) := rfl
theorem len5 {α : Type} {l : List α} (h : l.length = 5) : ∃ a b c d e, l = [a, b, c, d, e] := by
  match l, h with
  | [a, b, c, d, e], _ => exact ⟨a, b, c, d, e, rfl⟩
theorem len3 {α : Type} {l : List α} (h : l.length = 3) : ∃ a b c, l = [a, b, c] := by
  match l, h with
  | [a, b, c], _ => exact ⟨a, b, c, rfl⟩
theorem askD_len {l : List D} {h m : Int} (c : ¬ l.length = 5) : askD l h m = false := by
  unfold askD
  split
  · exact absurd rfl c
  · rfl
theorem againD_len {l : List D} {h m : Int} (c : ¬ l.length = 3) : againD l h m = false := by
  unfold againD
  split
  · exact absurd rfl c
  · rfl
section
variable {B : Bs} {A : Ad}
def R_ask (ds : List D) (r : Res) : Prop := ∃ l h m, ds = [.tup l, .int h, .int m] ∧ okL5 l = true ∧ r = .ok (.bl (askD l h m))
theorem ok_is_ask (T : Txt B A) : Kn B "is_ask" 5 3 R_ask := by
  obtain ⟨f, fd, F, m⟩ := T.d_is_ask
  have k_is_number := ok_is_number T
  have k_is_whole := ok_is_whole T
  have k_is_change := ok_is_change T
  refine kn_of F m (F.binds fun _ _ _ _ _ _ us hl => match us, hl with | [_, _, _], _ => rfl) c_is_ask rfl (by decide) fun cdv A' outer s H Q E S ds r hr hl hR hp => ?_
  obtain ⟨l, h, mm, rfl, hd, rfl⟩ := hR
  have st : Stb (Same H) := stb_same
  by_cases c5 : l.length = 5
  · obtain ⟨w, a, sr, t, c, rfl⟩ := len5 c5
    have hk : isStr w = true ∧ nr a = true ∧ nr sr = true ∧ nr t = true ∧ okCh c = true := by
      have z : (isStr w && (nr a && (nr sr && (nr t && okCh c)))) = true := hd
      simpa only [Bool.and_eq_true] using z
    obtain ⟨hw, ha, hs, ht, hc⟩ := hk
    obtain ⟨w, rfl⟩ := isStr_inv hw
    by_cases cw : w = askS
    · subst cw
      cases cn : numB a 0 (h - 1) with
      | false =>
        refine blk_if (et_w (ew_orF (et_cmp (ev_bi (eva_cons (ev_name 0) eva_nil) (by walk_at "bi") st T.zlen boot_len) ev_int (by walk_at "op") st) (ew_orF (et_cmp (ev_ix (ev_name 0) ev_int (by walk_at "ix")) ev_str (by walk_at "op") st) (ew_one_or (et_is (et_not (et_val (ev_call k_is_number hr (eva_cons (ev_ix (ev_name 0) ev_int (by walk_at "ix")) (eva_cons ev_int (eva_cons (ev_bin (ev_name 1) ev_int (by walk_at "op") st) eva_nil))) st ⟨_, _, _, rfl, ha, rfl⟩))) (congrArg Bool.not cn)))))) (fun h => ?_) (fun h => Bool.noConfusion h)
        refine blk_retR hp ev_bl ?_ fun _ w => w
        rw [askD_eq, cn]
        simp
      | true =>
        refine blk_if (et_w (ew_orF (et_cmp (ev_bi (eva_cons (ev_name 0) eva_nil) (by walk_at "bi") st T.zlen boot_len) ev_int (by walk_at "op") st) (ew_orF (et_cmp (ev_ix (ev_name 0) ev_int (by walk_at "ix")) ev_str (by walk_at "op") st) (ew_one_or (et_is (et_not (et_val (ev_call k_is_number hr (eva_cons (ev_ix (ev_name 0) ev_int (by walk_at "ix")) (eva_cons ev_int (eva_cons (ev_bin (ev_name 1) ev_int (by walk_at "op") st) eva_nil))) st ⟨_, _, _, rfl, ha, rfl⟩))) (congrArg Bool.not cn)))))) (fun h => Bool.noConfusion h) (fun h => blk_on ?_)
        refine blk_retR hp (ev_and (y := posB sr && (numB t 0 mm && changeD c)) (ev_call k_is_whole hr (eva_cons (ev_ix (ev_name 0) ev_int (by walk_at "ix")) eva_nil) st ⟨_, rfl, hs, rfl⟩) fun h => ?_) ?_ fun _ w => w
        · obtain ⟨i, rfl⟩ := whole_inv h
          exact ev_and (ev_cmp (ev_ix (ev_name 0) ev_int (by walk_at "ix")) ev_int (by walk_at "op") st) fun h => (ev_and (ev_call k_is_number hr (eva_cons (ev_ix (ev_name 0) ev_int (by walk_at "ix")) (eva_cons ev_int (eva_cons (ev_name 2) eva_nil))) st ⟨_, _, _, rfl, ht, rfl⟩) fun h => (ev_one (ev_call k_is_change hr (eva_cons (ev_ix (ev_name 0) ev_int (by walk_at "ix")) eva_nil) st ⟨_, rfl, hc, rfl⟩)))
        · rw [askD_eq, cn]
          simp
    · have e : (!decide (w = askS)) = true := by
        rw [decide_eq_false cw]
        rfl
      refine blk_if (et_w (ew_orF (et_cmp (ev_bi (eva_cons (ev_name 0) eva_nil) (by walk_at "bi") st T.zlen boot_len) ev_int (by walk_at "op") st) (ew_orT (et_is (et_cmp (ev_ix (ev_name 0) ev_int (by walk_at "ix")) ev_str (by walk_at "op") st) e)))) (fun h => ?_) (fun h => Bool.noConfusion h)
      refine blk_retR hp ev_bl ?_ fun _ w => w
      rw [askD_eq, decide_eq_false cw, Bool.false_and]
  · have e2 : (!decide ((l.length : Int) = 5)) = true := by
      rw [decide_eq_false (by omega)]
      rfl
    refine blk_if (et_w (ew_orT (et_is (et_cmp (ev_bi (eva_cons (ev_name 0) eva_nil) (by walk_at "bi") st T.zlen boot_len) ev_int (by walk_at "op") st) e2))) (fun h => ?_) (fun h => Bool.noConfusion h)
    exact blk_retR hp ev_bl (by rw [askD_len c5]) fun _ w => w
def R_again (ds : List D) (r : Res) : Prop := ∃ l h m, ds = [.tup l, .int h, .int m] ∧ okL3 l = true ∧ r = .ok (.bl (againD l h m))
theorem ok_is_again (T : Txt B A) : Kn B "is_again" 3 3 R_again := by
  obtain ⟨f, fd, F, m⟩ := T.d_is_again
  have k_is_number := ok_is_number T
  refine kn_of F m (F.binds fun _ _ _ _ _ _ us hl => match us, hl with | [_, _, _], _ => rfl) c_is_again rfl (by decide) fun cdv A' outer s H Q E S ds r hr hl hR hp => ?_
  obtain ⟨l, h, mm, rfl, hd, rfl⟩ := hR
  have st : Stb (Same H) := stb_same
  by_cases c3 : l.length = 3
  · obtain ⟨w, a, t, rfl⟩ := len3 c3
    have hk : isFl w = true ∧ nr a = true ∧ nr t = true := by
      have z : (isFl w && (nr a && nr t)) = true := hd
      simpa only [Bool.and_eq_true] using z
    obtain ⟨hw, ha, ht⟩ := hk
    cases w <;> first | exact absurd hw Bool.false_ne_true | skip
    · refine blk_if (et_w (ew_orF (et_cmp (ev_bi (eva_cons (ev_name 0) eva_nil) (by walk_at "bi") st T.zlen boot_len) ev_int (by walk_at "op") st) (ew_one_or (et_cmp (ev_ix (ev_name 0) ev_int (by walk_at "ix")) ev_str (by walk_at "op") st)))) (fun h => ?_) (fun h => Bool.noConfusion h)
      exact blk_retR hp ev_bl rfl fun _ w => w
    · rename_i w
      refine blk_if (et_w (ew_orF (et_cmp (ev_bi (eva_cons (ev_name 0) eva_nil) (by walk_at "bi") st T.zlen boot_len) ev_int (by walk_at "op") st) (ew_one_or (et_cmp (ev_ix (ev_name 0) ev_int (by walk_at "ix")) ev_str (by walk_at "op") st)))) (fun h => ?_) (fun h => blk_on ?_)
      · have e : decide (w = againS) = false := notT h
        refine blk_retR hp ev_bl ?_ fun _ w => w
        rw [againD_eq, e, Bool.false_and]
      · have e : decide (w = againS) = true := notF h
        refine blk_retR hp (ev_and (ev_call k_is_number hr (eva_cons (ev_ix (ev_name 0) ev_int (by walk_at "ix")) (eva_cons ev_int (eva_cons (ev_bin (ev_name 1) ev_int (by walk_at "op") st) eva_nil))) st ⟨_, _, _, rfl, ha, rfl⟩) fun h => (ev_one (ev_call k_is_number hr (eva_cons (ev_ix (ev_name 0) ev_int (by walk_at "ix")) (eva_cons ev_int (eva_cons (ev_name 2) eva_nil))) st ⟨_, _, _, rfl, ht, rfl⟩))) ?_ fun _ w => w
        rw [againD_eq, e, Bool.true_and]
  · have e2 : (!decide ((l.length : Int) = 3)) = true := by
      rw [decide_eq_false (by omega)]
      rfl
    refine blk_if (et_w (ew_orT (et_is (et_cmp (ev_bi (eva_cons (ev_name 0) eva_nil) (by walk_at "bi") st T.zlen boot_len) ev_int (by walk_at "op") st) e2))) (fun h => ?_) (fun h => Bool.noConfusion h)
    exact blk_retR hp ev_bl (by rw [againD_len c3]) fun _ w => w
/-! is_took -/
def tookD (d : D) (own : Int) : Bool := match d with
  | .tup [.str w, a, n, x, c] => decide (w = tookS) && (wholeD a && (eqI a own && (wholeD n && (posB n && (numB x 0 7 && changeD c)))))
  | _ => false
where eqI : D → Int → Bool
  | .int i, j => decide (i = j)
  | _, _ => false
def okTk : D → Bool
  | .tup l => okL5 l
  | d => nr d
def R_took (ds : List D) (r : Res) : Prop := ∃ d own, ds = [d, .int own] ∧ okTk d = true ∧ r = .ok (.bl (tookD d own))
theorem tookD_eq {w : Str} {a n x c : D} {own : Int} : tookD (.tup [.str w, a, n, x, c]) own = (decide (w = tookS) && (wholeD a && (tookD.eqI a own && (wholeD n && (posB n && (numB x 0 7 && changeD c)))))) := rfl
theorem tookD_len {l : List D} {own : Int} (c : ¬ l.length = 5) : tookD (.tup l) own = false := by
  unfold tookD
  split
  · rename_i e
    injection e with e
    subst e
    exact absurd rfl c
  · rfl
theorem tookD_tup {d : D} {own : Int} (h : isT "tuple" d = false) : tookD d own = false := by
  cases d <;> first | rfl | exact absurd h (by simp [isT, isTn, tyD])
theorem okTk_nr : ∀ {d : D}, okTk d = true → nr d = true
  | .non, _ => rfl
  | .bl _, _ => rfl
  | .int _, _ => rfl
  | .str _, _ => rfl
  | .tup _, _ => rfl
  | .lst _, _ => rfl
  | .dct, _ => rfl
  | .ref _, h => nomatch h
  | .ty _, h => nomatch h
theorem ok_is_took (T : Txt B A) : Kn B "is_took" 5 2 R_took := by
  obtain ⟨f, fd, F, m⟩ := T.d_is_took
  obtain ⟨u, hM⟩ := T.most
  have k_is_number := ok_is_number T
  have k_is_whole := ok_is_whole T
  have k_is_change := ok_is_change T
  refine kn_of F m (F.binds fun _ _ _ _ _ _ us hl => match us, hl with | [_, _], _ => rfl) c_is_took rfl (by decide) fun cdv A' outer s H Q E S ds r hr hl hR hp => ?_
  obtain ⟨d, own, rfl, hd, rfl⟩ := hR
  have st : Stb (Same H) := stb_same
  have hn := okTk_nr hd
  cases c1 : isT "tuple" d with
  | false =>
    refine blk_if (et_w (ew_orT (et_is (et_not (et_val (ev_isi T.zisi (ev_name 0) (ev_cls T.ztuple boot_tuple) st (by decide) hn))) (congrArg Bool.not c1)))) (fun h => ?_) (fun h => Bool.noConfusion h)
    exact blk_retR hp ev_bl (by rw [tookD_tup c1]) fun _ w => w
  | true =>
    obtain ⟨l, rfl⟩ := isT_tup (nr_ty hn) c1
    by_cases c5 : l.length = 5
    · obtain ⟨w, a, sr, t, c, rfl⟩ := len5 c5
      have hk : isStr w = true ∧ nr a = true ∧ nr sr = true ∧ nr t = true ∧ okCh c = true := by
        have z : (isStr w && (nr a && (nr sr && (nr t && okCh c)))) = true := hd
        simpa only [Bool.and_eq_true] using z
      obtain ⟨hw, ha, hs, ht, hc⟩ := hk
      obtain ⟨w, rfl⟩ := isStr_inv hw
      refine blk_if (et_w (ew_orF (et_not (et_val (ev_isi T.zisi (ev_name 0) (ev_cls T.ztuple boot_tuple) st (by decide) hn))) (ew_orF (et_cmp (ev_bi (eva_cons (ev_name 0) eva_nil) (by walk_at "bi") st T.zlen boot_len) ev_int (by walk_at "op") st) (ew_one_or (et_cmp (ev_ix (ev_name 0) ev_int (by walk_at "ix")) ev_str (by walk_at "op") st))))) (fun h => ?_) (fun h => blk_on ?_)
      · have e : decide (w = tookS) = false := notT h
        refine blk_retR hp ev_bl ?_ fun _ w => w
        rw [tookD_eq, e, Bool.false_and]
      · have e : decide (w = tookS) = true := notF h
        have e2 : tookD (.tup [.str w, a, sr, t, c]) own = (wholeD a && (tookD.eqI a own && (wholeD sr && (posB sr && (numB t 0 7 && changeD c))))) := by
          rw [tookD_eq, e, Bool.true_and]
        rw [e2] at hp
        refine blk_if (et_w (ew_or (y := !(tookD.eqI a own && (wholeD sr && posB sr))) (et_not (et_val (ev_call k_is_whole hr (eva_cons (ev_ix (ev_name 0) ev_int (by walk_at "ix")) eva_nil) st ⟨_, rfl, ha, rfl⟩))) fun h => ?_)) (fun h => ?_) (fun h => blk_on ?_)
        · obtain ⟨i, rfl⟩ := whole_inv (b := a) (notF h)
          refine ew_is ?_ (show (!decide (i = own) || (!wholeD sr || !posB sr)) = !(decide (i = own) && (wholeD sr && posB sr)) from by cases decide (i = own) <;> cases wholeD sr <;> cases posB sr <;> rfl)
          refine ew_or (et_cmp (ev_ix (ev_name 0) ev_int (by walk_at "ix")) (ev_name 1) (by walk_at "op") st) fun _ => ew_or (y := !posB sr) (et_not (et_val (ev_call k_is_whole hr (eva_cons (ev_ix (ev_name 0) ev_int (by walk_at "ix")) eva_nil) st ⟨_, rfl, hs, rfl⟩))) fun h => ?_
          obtain ⟨j, rfl⟩ := whole_inv (b := sr) (notF h)
          refine ew_one_or (et_is (et_cmp (ev_ix (ev_name 0) ev_int (by walk_at "ix")) ev_int (by walk_at "op") st) ?_)
          show decide (j < 1) = !decide (0 < j)
          by_cases c : j < 1
          · rw [decide_eq_true c, decide_eq_false (by omega)]
            rfl
          · rw [decide_eq_false c, decide_eq_true (by omega)]
            rfl
        · refine blk_retR hp ev_bl ?_ fun _ w => w
          cases c1 : wholeD a <;> cases c2 : tookD.eqI a own <;> cases c3 : wholeD sr <;> cases c4 : posB sr <;> simp_all
        · refine blk_retR hp (ev_and (ev_call k_is_number hr (eva_cons (ev_ix (ev_name 0) ev_int (by walk_at "ix")) (eva_cons ev_int (eva_cons (ev_bin (ev_glob (v := .int 8) (d := .int 8) hM ⟨_, rfl⟩ (fun _ _ => rfl)) ev_int (by walk_at "op") st) eva_nil))) st ⟨_, _, _, rfl, ht, rfl⟩) fun h => (ev_one (ev_call k_is_change hr (eva_cons (ev_ix (ev_name 0) ev_int (by walk_at "ix")) eva_nil) st ⟨_, rfl, hc, rfl⟩))) ?_ fun _ w => w
          cases c1 : wholeD a <;> cases c2 : tookD.eqI a own <;> cases c3 : wholeD sr <;> cases c4 : posB sr <;> simp_all
          all_goals rfl
    · have e2 : (!decide ((l.length : Int) = 5)) = true := by
        rw [decide_eq_false (by omega)]
        rfl
      refine blk_if (et_w (ew_orF (et_not (et_val (ev_isi T.zisi (ev_name 0) (ev_cls T.ztuple boot_tuple) st (by decide) hn))) (ew_orT (et_is (et_cmp (ev_bi (eva_cons (ev_name 0) eva_nil) (by walk_at "bi") st T.zlen boot_len) ev_int (by walk_at "op") st) e2)))) (fun h => ?_) (fun h => Bool.noConfusion h)
      exact blk_retR hp ev_bl (by rw [tookD_len c5]) fun _ w => w
/-! copied -/
def isChN : D → Bool
  | .non => true
  | .lst _ => true
  | _ => false
def R_copied (ds : List D) (r : Res) : Prop := ∃ d, ds = [d] ∧ isChN d = true ∧ r = .ok d
theorem ok_copied (T : Txt B A) : Kn B "copied" 1 1 R_copied := by
  obtain ⟨f, fd, F, m⟩ := T.d_copied
  refine kn_of F m (F.binds fun _ _ _ _ _ _ us hl => match us, hl with | [_], _ => rfl) c_copied rfl (by decide) fun cdv A' outer s H Q E S ds r hr hl hR hp => ?_
  obtain ⟨d, rfl, hd, rfl⟩ := hR
  have st : Stb (Same H) := stb_same
  cases d <;> first | exact absurd hd Bool.false_ne_true | skip
  · refine blk_if (et_cmp (ev_name 0) ev_non bo_isN_non st) (fun h => ?_) (fun h => Bool.noConfusion h)
    exact blk_retR hp ev_non rfl fun _ w => w
  · refine blk_if (et_cmp (ev_name 0) ev_non bo_isN_lst st) (fun h => Bool.noConfusion h) (fun h => blk_on ?_)
    exact blk_retR hp (ev_bt (eva_cons (ev_name 0) eva_nil) (by walk_at "bi") st T.zlist boot_list) rfl fun _ w => w
end
end Ink
/-! Ink10 -/
/-! done. -/
namespace Ink
open PySem PySem.Spec PyProof.Rows L2
local macro_rules | `(tactic| walk_at "op") => `(tactic| first
  | exact bo_add | exact bo_sub | exact bo_lt | exact bo_le | exact bo_gt | exact bo_ge | exact bo_eqI | exact bo_neI | exact bo_eqS | exact bo_neS | exact bo_in2 | exact bo_eq | exact bo_ne)
local macro_rules | `(tactic| walk_at "bi") => `(tactic| first
  | exact co_len_lst | exact co_len_tup | exact co_len_str (by assumption) | exact co_intB | exact co_list_lst)
local macro_rules | `(tactic| walk_at "ix") => `(tactic| first | exact io_tup rfl | exact io_lst rfl)
/-! ### texts as lists of signs -/
def Sx (l : List Nat) : Str := ⟨l.toArray⟩
theorem sx_len (l : List Nat) : (Sx l).length = l.length := by
  show l.toArray.size = l.length
  rw [List.size_toArray]
theorem sx_codes (l : List Nat) : (Sx l).cps.toList = l := by
  show l.toArray.toList = l
  simp
theorem sx_of (t : Str) : t = Sx t.cps.toList := by
  show t = ⟨t.cps.toList.toArray⟩
  rw [Array.toArray_toList]
theorem sx_app (a b : List Nat) : Sx a ++ Sx b = Sx (a ++ b) := by
  show (⟨a.toArray ++ b.toArray⟩ : Str) = ⟨(a ++ b).toArray⟩
  rw [List.append_toArray]
theorem sx_inj {a b : List Nat} (h : Sx a = Sx b) : a = b := by
  have e : (Sx a).cps.toList = (Sx b).cps.toList := by rw [h]
  rw [sx_codes, sx_codes] at e
  exact e
theorem sx_dec (a b : List Nat) : decide (Sx a = Sx b) = decide (a = b) := by
  by_cases h : a = b
  · subst h
    rw [decide_eq_true rfl, decide_eq_true rfl]
  · rw [decide_eq_false h, decide_eq_false fun e => h (sx_inj e)]
theorem drop_take_min (l : List Nat) (a b : Nat) : (l.drop (min a l.length)).take (min b l.length - min a l.length) = (l.drop a).take (b - a) := by
  by_cases ha : a ≤ l.length
  · rw [Nat.min_eq_left ha]
    by_cases hb : b ≤ l.length
    · rw [Nat.min_eq_left hb]
    · rw [Nat.min_eq_right (by omega)]
      have e1 : (l.drop a).length = l.length - a := List.length_drop
      rw [List.take_of_length_le (by omega), List.take_of_length_le (by omega)]
  · rw [show min a l.length = l.length from Nat.min_eq_right (by omega), List.drop_length, List.drop_eq_nil_of_le (by omega), List.take_nil, List.take_nil]
theorem sx_cut (l : List Nat) (a b : Nat) : cutS (Sx l) (some (a : Int)) (some (b : Int)) = Sx ((l.drop a).take (b - a)) := by
  unfold cutS
  rw [HT.sIx_nat, HT.sIx_nat, sx_codes, sx_len]
  show (⟨_⟩ : Str) = ⟨_⟩
  rw [drop_take_min]
/-! ### what done makes -/
def thD : D → D
  | .tup [_, y] => y
  | _ => .non
def numN (d : D) : Nat := (sizeD d).toNat
def codesD : D → List Nat
  | .str t => t.cps.toList
  | _ => []
def dstep (x : List Nat) (s : Nat × List Nat) (d : D) : Nat × List Nat :=
  if wD d = putS then (s.1, s.2 ++ codesD (thD d)) else if wD d = keepS then (s.1 + numN (thD d), s.2 ++ (x.drop s.1).take (numN (thD d))) else (s.1 + numN (thD d), s.2)
def drun (x : List Nat) (l : List D) : Nat × List Nat := l.foldl (dstep x) (0, [])
def dbad (x : List Nat) (s : Nat × List Nat) (d : D) : Bool := !decide (wD d = putS) && (!decide (wD d = keepS) && !decide ((x.drop s.1).take (numN (thD d)) = codesD (thD d)))
def dok (x : List Nat) (l : List D) : Bool := (List.range l.length).all fun i => !dbad x (drun x (l.take i)) (l.getD i .non)
def doneF (x : List Nat) (l : List D) : Option (List Nat) := if (dok x l && decide ((drun x l).1 = x.length)) = true then some (drun x l).2 else none
def lstD : D → List D
  | .lst l => l
  | _ => []
def doneR (A : Ad) (x : List Nat) (d : D) : Res := if changeD d = true then (match doneF x (lstD d) with
    | some y => .ok (.str (Sx y))
    | none => .exc A.fit) else .exc A.change
theorem drun_succ {x : List Nat} {l : List D} {i : Nat} (h : i < l.length) : drun x (l.take (i + 1)) = dstep x (drun x (l.take i)) (l.getD i .non) := by
  unfold drun
  rw [List.take_succ, List.foldl_append, getD_of .non h]
  rfl
theorem partW_inv {w : Str} {y : D} (h : partW w y = true) : (w = keepS ∧ ∃ n : Nat, y = .int (n : Int) ∧ 0 < n) ∨ ((w = putS ∨ w = cutS') ∧ ∃ t, y = .str t) := by
  unfold partW at h
  by_cases c : w = keepS
  · rw [if_pos c] at h
    left
    refine ⟨c, ?_⟩
    cases y <;> first | exact absurd h Bool.false_ne_true | skip
    rename_i n
    have e : 0 < n := of_decide_eq_true h
    exact ⟨n.toNat, by rw [Int.toNat_of_nonneg (by omega)], by omega⟩
  · rw [if_neg c] at h
    right
    by_cases c2 : putS = w ∨ cutS' = w
    · rw [if_pos c2] at h
      refine ⟨c2.imp Eq.symm Eq.symm, ?_⟩
      cases y <;> first | exact absurd h Bool.false_ne_true | exact ⟨_, rfl⟩
    · rw [if_neg c2] at h
      exact absurd h Bool.false_ne_true
theorem keep_put : ¬ keepS = putS := by decide +kernel
theorem cut_put : ¬ cutS' = putS := by decide +kernel
theorem cut_keep : ¬ cutS' = keepS := by decide +kernel
theorem put_keep : ¬ putS = keepS := by decide +kernel
/-- a change's parts are words with their things -/
theorem parts_pairs {l : List D} (h : l.all partD = true) : l = (l.map fun d => (D.str (wD d), thD d)).map fun p => D.tup [p.1, p.2] := by
  rw [List.map_map]
  apply List.ext_getElem?
  intro i
  rw [List.getElem?_map]
  cases e : l[i]? with
  | none => rfl
  | some d =>
    obtain ⟨w, y, q, _⟩ := partD_inv (List.all_eq_true.mp h d (List.mem_of_getElem? e))
    subst q
    rfl
theorem okW_sm {w : Str} {t : Str} (h : okPart (.tup [.str w, .str t]) = true) (hw : w = putS ∨ w = cutS') : t.length ≤ 1000 := by
  have z : okW w (.str t) = true := h
  unfold okW at z
  have z1 : (w == keepS) = false := by
    rcases hw with rfl | rfl <;> decide +kernel
  have z2 : (decide (putS = w) || decide (cutS' = w)) = true := by
    rcases hw with rfl | rfl <;> decide +kernel
  rw [z1, z2] at z
  have z3 : decide (t.length ≤ 1000) = true := by simpa [nr, isSm] using z
  exact of_decide_eq_true z3
theorem drun_len {x : List Nat} {l : List D} (hx : x.length ≤ 100) (h1 : l.all partD = true) (h2 : l.all okPart = true) : ∀ i, i ≤ l.length → (drun x (l.take i)).2.length ≤ 1000 * i
  | 0, _ => by simp [drun]
  | i + 1, hi => by
    have ih := drun_len hx h1 h2 i (by omega)
    rw [drun_succ (by omega)]
    have m1 := List.mem_of_getElem? (getD_of (l := l) .non (show i < l.length by omega))
    obtain ⟨w, y, e, p⟩ := partD_inv (List.all_eq_true.mp h1 _ m1)
    have ok := List.all_eq_true.mp h2 _ m1
    rw [e] at ok ⊢
    unfold dstep
    rcases partW_inv p with ⟨rfl, n, rfl, hn⟩ | ⟨hw, t, rfl⟩
    · rw [if_neg (show ¬ wD (.tup [.str keepS, .int (n : Int)]) = putS from keep_put), if_pos (show wD (.tup [.str keepS, .int (n : Int)]) = keepS from rfl)]
      show ((drun x (l.take i)).2 ++ (x.drop (drun x (l.take i)).1).take _).length ≤ _
      rw [List.length_append, List.length_take, List.length_drop]
      omega
    · have ht := okW_sm ok hw
      rcases hw with rfl | rfl
      · rw [if_pos (show wD (.tup [.str putS, .str t]) = putS from rfl)]
        show ((drun x (l.take i)).2 ++ t.cps.toList).length ≤ _
        rw [List.length_append, Array.length_toList]
        have : t.cps.size = t.length := rfl
        omega
      · rw [if_neg (show ¬ wD (.tup [.str cutS', .str t]) = putS from cut_put), if_neg (show ¬ wD (.tup [.str cutS', .str t]) = keepS from cut_keep)]
        show (drun x (l.take i)).2.length ≤ _
        omega
section
variable {B : Bs} {A : Ad}
def R_done (A : Ad) (ds : List D) (r : Res) : Prop := ∃ x d, ds = [.str (Sx x), d] ∧ x.all inSG = true ∧ x.length ≤ 100 ∧ okCh d = true ∧ r = doneR A x d
theorem changeD_inv {d : D} (h : changeD d = true) : ∃ l, d = .lst l ∧ l.all partD = true := by
  cases d <;> first | exact absurd h Bool.false_ne_true | skip
  rename_i l
  have z : (l.all partD && adj l) = true := h
  rw [Bool.and_eq_true] at z
  exact ⟨l, rfl, z.1⟩
theorem ok_done (T : Txt B A) : Kn B "done" 4 2 (R_done A) := by
  obtain ⟨f, fd, F, m⟩ := T.d_done
  have k_need_text := ok_need_text T
  have k_need_change := ok_need_change T
  have k_size_of := ok_size_of T
  refine kn_of F m (F.binds fun _ _ _ _ _ _ us hl => match us, hl with | [_, _], _ => rfl) c_done rfl (by decide) fun cdv A' outer s H Q E S ds r hr hl hR hp => ?_
  obtain ⟨x, d, rfl, hx, hxl, hd, rfl⟩ := hR
  have st : Stb (Same H) := stb_same
  have nd := c_done.nd
  have hxs : (Sx x).length ≤ 1000 := by
    rw [sx_len]
    omega
  refine blk_expr (ev_call k_need_text hr (eva_cons (ev_name 0) eva_nil) st ⟨.str (Sx x), rfl, rfl, hxs, by
    rw [if_pos]
    show (Sx x).cps.toList.all inSG = true
    rw [sx_codes]
    exact hx⟩) ?_
  cases c : changeD d with
  | false =>
    have e : doneR A x d = .exc A.change := by
      unfold doneR
      rw [c]
      rfl
    rw [e] at hp
    exact blk_exprX tk_cx (evx_call k_need_change hr (eva_cons (ev_name 1) eva_nil) st ⟨d, rfl, hd, by rw [c]; rfl⟩) fun H' so w => hp H' w
  | true =>
    refine blk_expr (ev_call k_need_change hr (eva_cons (ev_name 1) eva_nil) st ⟨d, rfl, hd, by rw [c]; rfl⟩) ?_
    obtain ⟨l, rfl, hall⟩ := changeD_inv c
    have hd2 : l.length ≤ 900 ∧ l.all okPart = true := by
      have z : (decide (l.length ≤ 900) && l.all okPart) = true := hd
      rw [Bool.and_eq_true] at z
      exact ⟨of_decide_eq_true z.1, z.2⟩
    have hp2 : Post S H (match doneF x l with
        | some y => .ok (.str (Sx y))
        | none => .exc A.fit) Q E := by
      have e : doneR A x (.lst l) = (match doneF x l with
        | some y => .ok (.str (Sx y))
        | none => .exc A.fit) := by
        unfold doneR
        rw [if_pos c]
        rfl
      rw [e] at hp
      exact hp
    refine blk_set 2 ev_str ?_ nd
    refine blk_set 3 ev_int ?_ nd
    refine blk_for2 4 5 (ps := l.map fun d => (D.str (wD d), thD d)) (fun i => [some (.str (Sx x)), some (.lst l), some (.str (Sx (drun x (l.take i)).2)), some (.int ((drun x (l.take i)).1 : Int)), none, none, none])
      (fun i H' => Same H H' ∧ ∀ j, j < i → dbad x (drun x (l.take j)) (l.getD j .non) = false) (ev_is (ev_name 1) (congrArg D.lst (parts_pairs hall))) (fun σ H' t so w => ⟨t, w, fun j z => absurd z (by omega)⟩) (fun i a b Hs hi => ?_) ?_ nd po_cx
    · -- a turn
      rw [List.getElem?_map] at hi
      obtain ⟨d, hi2, e2⟩ := Option.map_eq_some_iff.mp hi
      have hil : i < l.length := (List.getElem?_eq_some_iff.mp hi2).1
      have eg : l.getD i .non = d := by
        rw [List.getD_eq_getElem?_getD, hi2]
        rfl
      have m1 := List.mem_of_getElem? hi2
      obtain ⟨w, y, rfl, p⟩ := partD_inv (List.all_eq_true.mp hall _ m1)
      have ok := List.all_eq_true.mp hd2.2 _ m1
      cases e2
      have st2 : Stb (withK S (fun H' => Same H H' ∧ ∀ j, j < i → dbad x (drun x (l.take j)) (l.getD j .non) = false) Hs) := stb_withK fun _ _ a b => ⟨a.1.trans b, a.2⟩
      have hfl := drun_len hxl hall hd2.2 i (by omega)
      have rs := drun_succ (x := x) hil
      rw [eg] at rs
      have fin : ∀ {E' : Ends} {s' : Nat × List Nat} {bv : D} {dw dy : D}, (∀ σ H', Ty S H' σ [some (.str (Sx x)), some (.lst l), some (.str (Sx (drun x (l.take (i + 1))).2)), some (.int ((drun x (l.take (i + 1))).1 : Int)), none, none, none] → SOk S H' →
            withK S (fun H' => Same H H' ∧ ∀ j, j < i + 1 → dbad x (drun x (l.take j)) (l.getD j .non) = false) Hs H' → E'.nx σ H') →
          dstep x (drun x (l.take i)) (.tup [.str w, y]) = s' → dbad x (drun x (l.take i)) (.tup [.str w, y]) = false →
          Blk (cx B n_done "done" s_done f cdv A' outer s H E) S [] E'
            [some (.str (Sx x)), some (.lst l), some (.str (Sx s'.2)), some (.int (s'.1 : Int)), some dw, some dy, some bv] (withK S (fun H' => Same H H' ∧ ∀ j, j < i → dbad x (drun x (l.take j)) (l.getD j .non) = false) Hs) := fun {E' s' bv dw dy} hE e1 e2 => blk_nil fun σ H' t so w => by
        refine hE σ H' ?_ so ⟨⟨w.1.1, fun j hj => ?_⟩, w.2⟩
        · rw [rs, e1]
          exact ((t.forget 4).forget 5).forget 6
        · by_cases z : j = i
          · rw [z, eg]
            exact e2
          · exact w.1.2 j (by omega)
      rcases partW_inv p with ⟨rfl, n, rfl, hn⟩ | ⟨hw, t, rfl⟩
      · -- keep
        have e3 : (((drun x (l.take i)).1 : Int) + sizeD (.int (n : Int))) = (((drun x (l.take i)).1 + n : Nat) : Int) := by
          show ((drun x (l.take i)).1 : Int) + (n : Int) = _
          omega
        refine blk_set 6 (ev_is (ev_bin (ev_name 3) (ev_call k_size_of hr (eva_cons (ev_name 5) eva_nil) st2 ⟨_, rfl, rfl, rfl⟩) (by walk_at "op") st2) (congrArg D.int e3)) ?_ nd
        refine blk_if (et_is (et_cmp (ev_name 4) ev_str (by walk_at "op") st2) (decide_eq_false keep_put)) (fun h => Bool.noConfusion h) (fun _ => ?_)
        refine blk_if1 (et_is (et_cmp (ev_name 4) ev_str (by walk_at "op") st2) (decide_eq_true rfl)) (fun _ => ?_) (fun h => Bool.noConfusion h)
        have e4 : dstep x (drun x (l.take i)) (.tup [.str keepS, .int (n : Int)]) = ((drun x (l.take i)).1 + n, (drun x (l.take i)).2 ++ (x.drop (drun x (l.take i)).1).take n) := by
          unfold dstep
          rw [if_neg (show ¬ wD (.tup [.str keepS, .int (n : Int)]) = putS from keep_put), if_pos (show wD (.tup [.str keepS, .int (n : Int)]) = keepS from rfl)]
          rfl
        have hs1 : SlO (cx B n_done "done" s_done f cdv A' outer s H E) (.str (Sx x)) (some ((drun x (l.take i)).1 : Int)) (some (((drun x (l.take i)).1 + n : Nat) : Int)) (.str (Sx ((x.drop (drun x (l.take i)).1).take n))) := by
          have z := so_str (X := cx B n_done "done" s_done f cdv A' outer s H E) (z := Sx x) (oi := some ((drun x (l.take i)).1 : Int)) (oj := some (((drun x (l.take i)).1 + n : Nat) : Int)) hxs
          rw [sx_cut, Nat.add_sub_cancel_left] at z
          exact z
        refine blk_set 2 (ev_is (ev_bin (ev_name 2) (ev_sl (ev_name 0) (eo_some (ev_name 3)) (eo_some (ev_name 6)) hs1 st2) (bo_addS (by
          rw [sx_len, sx_len, List.length_take, List.length_drop]
          omega)) st2) (congrArg D.str (sx_app _ _))) ?_ nd
        refine blk_on (blk_set 3 (ev_name 6) ?_ nd)
        refine fin ?_ e4 ?_
        exact fun σ H' t so w => ⟨t, so, w⟩
        exact (by
          unfold dbad
          rw [decide_eq_false (show ¬ wD (.tup [.str keepS, .int (n : Int)]) = putS from keep_put), decide_eq_true (show wD (.tup [.str keepS, .int (n : Int)]) = keepS from rfl)]
          rfl)
      · have ht := okW_sm ok hw
        have htl : t.cps.toList.length = t.length := Array.length_toList
        have hsz : okSz (.str t) = true := decide_eq_true ht
        rcases hw with rfl | rfl
        · -- put
          refine blk_set 6 (ev_bin (ev_name 3) (ev_call k_size_of hr (eva_cons (ev_name 5) eva_nil) st2 ⟨_, rfl, hsz, rfl⟩) (by walk_at "op") st2) ?_ nd
          refine blk_if (et_is (et_cmp (ev_name 4) ev_str (by walk_at "op") st2) (decide_eq_true rfl)) (fun _ => ?_) (fun h => Bool.noConfusion h)
          have e4 : dstep x (drun x (l.take i)) (.tup [.str putS, .str t]) = ((drun x (l.take i)).1, (drun x (l.take i)).2 ++ t.cps.toList) := by
            unfold dstep
            rw [if_pos (show wD (.tup [.str putS, .str t]) = putS from rfl)]
            rfl
          refine blk_set 2 (ev_is (ev_bin (ev_name 2) (ev_name 5) (bo_addS (by
            rw [sx_len]
            omega)) st2) (congrArg D.str (show Sx (drun x (l.take i)).2 ++ t = Sx ((drun x (l.take i)).2 ++ t.cps.toList) from by rw [← sx_app, ← sx_of t]))) ?_ nd
          refine blk_set 6 (ev_name 3) ?_ nd
          refine blk_on (blk_set 3 (ev_name 6) ?_ nd)
          refine fin ?_ e4 ?_
          exact fun σ H' t so w => ⟨t, so, w⟩
          exact (by
            unfold dbad
            rw [decide_eq_true (show wD (.tup [.str putS, .str t]) = putS from rfl)]
            rfl)
        · -- cut
          have e3 : (((drun x (l.take i)).1 : Int) + sizeD (.str t)) = (((drun x (l.take i)).1 + t.length : Nat) : Int) := by
            show ((drun x (l.take i)).1 : Int) + (t.length : Int) = _
            omega
          refine blk_set 6 (ev_is (ev_bin (ev_name 3) (ev_call k_size_of hr (eva_cons (ev_name 5) eva_nil) st2 ⟨_, rfl, hsz, rfl⟩) (by walk_at "op") st2) (congrArg D.int e3)) ?_ nd
          refine blk_if (et_is (et_cmp (ev_name 4) ev_str (by walk_at "op") st2) (decide_eq_false cut_put)) (fun h => Bool.noConfusion h) (fun _ => ?_)
          refine blk_if1 (et_is (et_cmp (ev_name 4) ev_str (by walk_at "op") st2) (decide_eq_false cut_keep)) (fun h => Bool.noConfusion h) (fun _ => ?_)
          have hs1 : SlO (cx B n_done "done" s_done f cdv A' outer s H E) (.str (Sx x)) (some ((drun x (l.take i)).1 : Int)) (some (((drun x (l.take i)).1 + t.length : Nat) : Int)) (.str (Sx ((x.drop (drun x (l.take i)).1).take t.length))) := by
            have z := so_str (X := cx B n_done "done" s_done f cdv A' outer s H E) (z := Sx x) (oi := some ((drun x (l.take i)).1 : Int)) (oj := some (((drun x (l.take i)).1 + t.length : Nat) : Int)) hxs
            rw [sx_cut, Nat.add_sub_cancel_left] at z
            exact z
          have e5 : dbad x (drun x (l.take i)) (.tup [.str cutS', .str t]) = !decide (Sx ((x.drop (drun x (l.take i)).1).take t.length) = t) := by
            unfold dbad
            rw [decide_eq_false (show ¬ wD (.tup [.str cutS', .str t]) = putS from cut_put), decide_eq_false (show ¬ wD (.tup [.str cutS', .str t]) = keepS from cut_keep)]
            show (true && (true && !decide ((x.drop (drun x (l.take i)).1).take t.length = t.cps.toList))) = _
            rw [Bool.true_and, Bool.true_and]
            congr 1
            have := sx_dec ((x.drop (drun x (l.take i)).1).take t.length) t.cps.toList
            rw [← sx_of t] at this
            exact this.symm
          have e4 : dstep x (drun x (l.take i)) (.tup [.str cutS', .str t]) = ((drun x (l.take i)).1 + t.length, (drun x (l.take i)).2) := by
            unfold dstep
            rw [if_neg (show ¬ wD (.tup [.str cutS', .str t]) = putS from cut_put), if_neg (show ¬ wD (.tup [.str cutS', .str t]) = keepS from cut_keep)]
            rfl
          refine blk_if1 (et_cmp (ev_sl (ev_name 0) (eo_some (ev_name 3)) (eo_some (ev_name 6)) hs1 st2) (ev_name 5) (by walk_at "op") st2) (fun h => ?_) (fun h => ?_)
          · have e6 : doneF x l = none := by
              unfold doneF
              rw [if_neg]
              intro z
              rw [Bool.and_eq_true] at z
              have z1 := List.all_eq_true.mp z.1 i (List.mem_range.mpr hil)
              rw [eg, e5, h] at z1
              exact absurd z1 Bool.false_ne_true
            rw [e6] at hp2
            exact blk_raise tk_cx T.fit fun H so w => hp2 H w.1.1
          · refine blk_on (blk_set 3 (ev_name 6) ?_ nd)
            refine fin ?_ e4 ?_
            exact fun σ H' t so w => ⟨t, so, w⟩
            exact (by rw [e5]; exact h)
    · -- behind the loop
      have st3 : Stb (fun H' => Same H H' ∧ ∀ j, j < (l.map fun d => (D.str (wD d), thD d)).length → dbad x (drun x (l.take j)) (l.getD j .non) = false) := fun _ _ a b => ⟨a.1.trans b, a.2⟩
      have el : l.take (l.map fun d => (D.str (wD d), thD d)).length = l := by
        rw [List.length_map, List.take_length]
      rw [el]
      have okl : ∀ (hb : ∀ j, j < (l.map fun d => (D.str (wD d), thD d)).length → dbad x (drun x (l.take j)) (l.getD j .non) = false), dok x l = true := fun hb => by
        unfold dok
        rw [List.all_eq_true]
        intro j hj
        rw [hb j (by rw [List.length_map]; exact List.mem_range.mp hj)]
        rfl
      refine blk_if (et_cmp (ev_name 3) (ev_bi (eva_cons (ev_name 0) eva_nil) (by walk_at "bi") st3 T.zlen boot_len) (by walk_at "op") st3) (fun h => ?_) (fun h => blk_on ?_)
      · refine blk_raise tk_cx T.fit fun H1 so w => ?_
        have e6 : doneF x l = none := by
          unfold doneF
          rw [if_neg]
          intro z
          rw [Bool.and_eq_true] at z
          have z2 : (drun x l).1 = x.length := of_decide_eq_true z.2
          rw [z2, sx_len, decide_eq_true rfl] at h
          exact absurd h Bool.false_ne_true
        rw [e6] at hp2
        exact hp2 H1 w.1
      · refine blk_ret (ev_name 2) fun v H1 so w p => ?_
        have e6 : doneF x l = some (drun x l).2 := by
          unfold doneF
          rw [if_pos]
          rw [okl w.2, Bool.true_and]
          have z := notF h
          rw [sx_len] at z
          exact decide_eq_true (by have := of_decide_eq_true z; omega)
        rw [e6] at hp2
        exact hp2 v H1 w.1 p
end
end Ink
/-! Ink11 -/
/-! The D-layer: objects that change, as a list of addresses and what stands there. -/
namespace Ink
open PySem PySem.Spec PyProof.Rows L2

inductive OD where
  | ins (C : Addr) (ks : List Str) (ds : List D) | lst (l : List D) | dk0 | dk1 (n : Int) (d : D)
abbrev Ms := List (Addr × OD)
def OAt (S : Set') (H : Hp) (a : Addr) : OD → Prop
  | .ins C ks ds => ∃ dx vs, H a = some (.ins C dx (ks.zip vs)) ∧ DatL S H vs ds ∧ ds.length = ks.length ∧ ks.Nodup ∧ ks.length < 100
  | .lst l => ∃ vs, H a = some (.lst vs) ∧ DatL S H vs l
  | .dk0 => H a = some (.dK [])
  | .dk1 n d => ∃ v, H a = some (.dK [(.inl n, v)]) ∧ Dat S H v d
def adr (m : Ms) : Set' := fun a => a ∈ m.map (·.1)
structure Ob (S : Set') (m : Ms) (H : Hp) : Prop where
  nd : (m.map (·.1)).Nodup
  at' : ∀ x ∈ m, S x.1 ∧ OAt S H x.1 x.2
structure OB (Hs : Hp) (M S : Set') (m : Ms) (H : Hp) : Prop where
  k : Kept M Hs H
  f : ∀ x ∈ m, M x.1 ∨ Hs x.1 = none
  o : Ob S m H

theorem OAt.has {S : Set'} {H : Hp} {a : Addr} {o : OD} (h : OAt S H a o) : H a ≠ none := by
  cases o with
  | ins C ks ds =>
    obtain ⟨dx, vs, e, _⟩ := h
    rw [e]; exact fun z => nomatch z
  | lst l =>
    obtain ⟨vs, e, _⟩ := h
    rw [e]; exact fun z => nomatch z
  | dk0 =>
    rw [show H a = some (HO.dK []) from h]; exact fun z => nomatch z
  | dk1 n d =>
    obtain ⟨v, e, _⟩ := h
    rw [e]; exact fun z => nomatch z
/-- another heap, another set -/
theorem OAt.move {S S' : Set'} {H H' : Hp} {a : Addr} {o : OD} (h : OAt S H a o) (e : H' a = H a) (k : ∀ v d, Dat S H v d → Dat S' H' v d) (kl : ∀ v d, DatL S H v d → DatL S' H' v d) : OAt S' H' a o := by
  cases o with
  | ins C ks ds =>
    obtain ⟨dx, vs, q, r⟩ := h
    exact ⟨dx, vs, e.trans q, kl _ _ r.1, r.2⟩
  | lst l =>
    obtain ⟨vs, q, r⟩ := h
    exact ⟨vs, e.trans q, kl _ _ r⟩
  | dk0 => exact e.trans h
  | dk1 n d =>
    obtain ⟨v, q, r⟩ := h
    exact ⟨v, e.trans q, k _ _ r⟩
theorem Ob.kept {S N : Set'} {m : Ms} {H H' : Hp} (h : Ob S m H) (k : Kept N H H') (hN : ∀ a, N a → S a) (hd : ∀ x ∈ m, ¬ N x.1) : Ob S m H' := ⟨h.nd, fun x hx => by
  obtain ⟨s, o⟩ := h.at' x hx
  refine ⟨s, o.move ?_ (fun v d p => p.kept (k.weak hN)) (fun v d p => p.kept (k.weak hN))⟩
  cases e : H x.1 with
  | none => exact absurd e o.has
  | some q => exact k.1 _ _ e (hd x hx)⟩
theorem Ob.same {S : Set'} {m : Ms} {H H' : Hp} (h : Ob S m H) (k : Same H H') : Ob S m H' := h.kept (N := fun _ => False) (Same.kept k) (fun _ z => z.elim) fun _ _ z => z
theorem OB.same {Hs : Hp} {M S : Set'} {m : Ms} {H H' : Hp} (h : OB Hs M S m H) (k : Same H H') : OB Hs M S m H' := ⟨h.k.trans (Same.kept k), h.f, h.o.same k⟩
theorem stb_OB {Hs : Hp} {M S : Set'} {m : Ms} : Stb (OB Hs M S m) := fun _ _ h e => h.same e
theorem Ob.off {S S' : Set'} {m : Ms} {H : Hp} (h : Ob S m H) (h1 : ∀ b, H b ≠ none → S' b → S b) (h2 : ∀ x ∈ m, S' x.1) : Ob S' m H := ⟨h.nd, fun x hx => ⟨h2 x hx, (h.at' x hx).2.move rfl (fun v d p => Dat.off h1 d v p) (fun v d p => DatL.off h1 d v p)⟩⟩
theorem Ob.sub {S : Set'} {m m' : Ms} {H : Hp} (h : Ob S m H) (h1 : (m'.map (·.1)).Nodup) (h2 : ∀ x ∈ m', x ∈ m) : Ob S m' H := ⟨h1, fun x hx => h.at' x (h2 x hx)⟩
theorem Ob.left {S : Set'} {l r : Ms} {H : Hp} (h : Ob S (l ++ r) H) : Ob S l H := h.sub (by
  have z := h.nd
  rw [List.map_append] at z
  exact (List.nodup_append.mp z).1) fun x hx => List.mem_append_left _ hx
theorem Ob.right {S : Set'} {l r : Ms} {H : Hp} (h : Ob S (l ++ r) H) : Ob S r H := h.sub (by
  have z := h.nd
  rw [List.map_append] at z
  exact (List.nodup_append.mp z).2.1) fun x hx => List.mem_append_right _ hx
/-- one object written anew -/
theorem Ob.put {S : Set'} {m : Ms} {H : Hp} {i : Nat} {a : Addr} {o o' : OD} {ob : HO} (h : Ob S m H) (hi : m[i]? = some (a, o)) (hn : OAt S (upd H a ob) a o') : Ob S (m.set i (a, o')) (upd H a ob) := by
  have hl : i < m.length := (List.getElem?_eq_some_iff.mp hi).1
  have em : (m.set i (a, o')).map (·.1) = m.map (·.1) := by
    rw [List.map_set]
    refine List.ext_getElem? fun j => ?_
    by_cases c : i = j
    · subst c
      rw [List.getElem?_set_self (by rw [List.length_map]; exact hl), List.getElem?_map, hi]
      rfl
    · rw [List.getElem?_set_ne c]
  have hS : S a := (h.at' _ (List.mem_of_getElem? hi)).1
  refine ⟨by rw [em]; exact h.nd, fun x hx => ?_⟩
  obtain ⟨j, hj⟩ := List.mem_iff_getElem?.mp hx
  by_cases c : i = j
  · subst c
    rw [List.getElem?_set_self hl] at hj
    cases hj
    exact ⟨hS, hn⟩
  · rw [List.getElem?_set_ne c] at hj
    have hx2 := List.mem_of_getElem? hj
    obtain ⟨s, q⟩ := h.at' x hx2
    have na : x.1 ≠ a := by
      intro z
      have e1 : (m.map (·.1))[i]? = some a := by rw [List.getElem?_map, hi]; rfl
      have e2 : (m.map (·.1))[j]? = some a := by rw [List.getElem?_map, hj]; exact congrArg some z
      have l1 : i < (m.map (·.1)).length := (List.getElem?_eq_some_iff.mp e1).1
      exact c ((List.getElem?_inj l1 h.nd).mp (e1.trans e2.symm))
    exact ⟨s, q.move (upd_ne na) (fun v d p => p.kept (kept_upd hS)) (fun v d p => p.kept (kept_upd hS))⟩
theorem OB.put {Hs : Hp} {M S : Set'} {m : Ms} {H : Hp} {i : Nat} {a : Addr} {o o' : OD} {ob : HO} (h : OB Hs M S m H) (hi : m[i]? = some (a, o)) (hn : OAt S (upd H a ob) a o') : OB Hs M S (m.set i (a, o')) (upd H a ob) := by
  have hf := h.f _ (List.mem_of_getElem? hi)
  refine ⟨⟨fun b q e n => ?_, fun b e => ?_⟩, fun x hx => ?_, h.o.put hi hn⟩
  · have : b ≠ a := by
      rintro rfl
      rcases hf with z | z
      · exact n z
      · rw [show Hs b = none from z] at e
        cases e
    rw [upd_ne this]
    exact h.k.1 b q e n
  · by_cases c : b = a
    · subst c
      rw [upd_same] at e
      cases e
    · rw [upd_ne c] at e
      exact h.k.2 b e
  · obtain ⟨j, hj⟩ := List.mem_iff_getElem?.mp hx
    by_cases c : i = j
    · subst c
      rw [List.getElem?_set_self (List.getElem?_eq_some_iff.mp hi).1] at hj
      cases hj
      exact hf
    · rw [List.getElem?_set_ne c] at hj
      exact h.f x (List.mem_of_getElem? hj)
/-- the set with new addresses -/
abbrev wid (S N : Set') : Set' := fun b => S b ∨ N b
theorem wid_off {S N : Set'} {H : Hp} (hN : ∀ b, N b → H b = none) : ∀ b, H b ≠ none → wid S N b → S b := fun b n z => z.elim id fun y => absurd (hN b y) n
/-- objects that stand newly in a later heap -/
theorem OB.more {Hs : Hp} {M S N : Set'} {m m' : Ms} {H H' : Hp} (h : OB Hs M S m H) (hN : ∀ b, N b → H b = none) (k : Kept N H H') (h' : Ob (wid S N) m' H') (hm : ∀ x ∈ m', N x.1) : OB Hs M (wid S N) (m ++ m') H' := by
  have off := wid_off (S := S) hN
  have h0 : ∀ x ∈ m, ¬ N x.1 := fun x hx z => (h.o.at' x hx).2.has (hN _ z)
  have o1 : Ob (wid S N) m H := h.o.off off fun x hx => .inl (h.o.at' x hx).1
  have o2 : Ob (wid S N) m H' := o1.kept k (fun a z => .inr z) h0
  refine ⟨⟨fun b q e n => ?_, fun b e => h.k.2 b (k.2 b e)⟩, fun x hx => ?_, ?_, fun x hx => ?_⟩
  · have e1 := h.k.1 b q e n
    exact k.1 b q e1 fun z => by
      rw [hN b z] at e1
      cases e1
  · rcases List.mem_append.mp hx with z | z
    · exact h.f x z
    · exact .inr (h.k.2 _ (hN _ (hm x z)))
  · rw [List.map_append, List.nodup_append]
    refine ⟨o2.nd, h'.nd, fun a ha b hb e => ?_⟩
    subst e
    obtain ⟨x, hx, rfl⟩ := List.mem_map.mp ha
    obtain ⟨y, hy, e⟩ := List.mem_map.mp hb
    exact h0 x hx (by rw [← e]; exact hm y hy)
  · rcases List.mem_append.mp hx with z | z
    · exact o2.at' x z
    · exact h'.at' x z
/-! lookups -/
theorem zip_lookup {f : Str} : ∀ {ks : List Str} {vs : List V} {j : Nat} {v : V}, ks.Nodup → ks[j]? = some f → vs[j]? = some v → (ks.zip vs).lookup f = some v
  | [], _, _, _, _, e, _ => by simp at e
  | k :: ks, [], _, _, _, _, e => by simp at e
  | k :: ks, u :: vs, 0, v, _, e1, e2 => by
    cases (Option.some.inj e1)
    cases (Option.some.inj e2)
    show List.lookup f ((f, u) :: ks.zip vs) = _
    rw [List.lookup_cons, beq_self_eq_true]
  | k :: ks, u :: vs, j + 1, v, nd, e1, e2 => by
    have nk : ¬ f = k := by
      rintro rfl
      exact (List.nodup_cons.mp nd).1 (List.mem_of_getElem? (show ks[j]? = some f from e1))
    show List.lookup f ((k, u) :: ks.zip vs) = _
    rw [List.lookup_cons, beq_eq_false_iff_ne.mpr nk]
    exact zip_lookup (List.nodup_cons.mp nd).2 e1 e2
theorem zip_none {f : Str} : ∀ {ks : List Str} {vs : List V}, f ∉ ks → (ks.zip vs).lookup f = none
  | [], _, _ => rfl
  | k :: ks, [], _ => rfl
  | k :: ks, u :: vs, h => by
    show List.lookup f ((k, u) :: ks.zip vs) = _
    rw [List.lookup_cons, beq_eq_false_iff_ne.mpr fun z => h (by rw [z]; exact List.mem_cons_self)]
    exact zip_none fun z => h (List.mem_cons_of_mem _ z)
theorem zip_put {f : Str} {v : V} : ∀ {ks : List Str} {vs : List V} {j : Nat}, ks.Nodup → ks[j]? = some f → vs.length = ks.length → putF f v (ks.zip vs) = ks.zip (vs.set j v)
  | [], _, _, _, e, _ => by simp at e
  | k :: ks, [], _, _, _, e => by simp at e
  | k :: ks, u :: vs, 0, _, e1, _ => by
    cases (Option.some.inj e1)
    show putF f v ((f, u) :: ks.zip vs) = (f, v) :: ks.zip vs
    rw [putF, if_pos rfl]
  | k :: ks, u :: vs, j + 1, nd, e1, e2 => by
    have nk : ¬ k = f := by
      rintro rfl
      exact (List.nodup_cons.mp nd).1 (List.mem_of_getElem? (show ks[j]? = some k from e1))
    show putF f v ((k, u) :: ks.zip vs) = (k, u) :: ks.zip (vs.set j v)
    rw [putF, if_neg nk, zip_put (List.nodup_cons.mp nd).2 e1 (by simpa using e2)]
theorem zip_putN {f : Str} {v : V} : ∀ {ks : List Str} {vs : List V}, f ∉ ks → vs.length = ks.length → putF f v (ks.zip vs) = (ks ++ [f]).zip (vs ++ [v])
  | [], [], _, _ => rfl
  | [], u :: vs, _, e => by simp at e
  | k :: ks, [], _, e => by simp at e
  | k :: ks, u :: vs, h, e => by
    have nk : ¬ k = f := fun z => h (by rw [z]; exact List.mem_cons_self)
    show putF f v ((k, u) :: ks.zip vs) = (k, u) :: (ks ++ [f]).zip (vs ++ [v])
    rw [putF, if_neg nk, zip_putN (fun z => h (List.mem_cons_of_mem _ z)) (by simpa using e)]
theorem zip_len {ks : List Str} {vs : List V} : (ks.zip vs).length ≤ ks.length := by
  rw [List.length_zip]
  exact Nat.min_le_left _ _
end Ink
/-! Ink12 -/
/-! The D-layer: reading and writing the objects that change. -/
namespace Ink
open PySem PySem.Spec PyProof.Rows L2
section
variable {X : Cx} {S M : Set'} {Hs : Hp} {m m' : Ms} {G : Gm} {W W1 W2 W3 W' : As} {pos apos pos' cpos : Pos} {o e v a b x : Expr} {es : List Expr} {d da db : D} {ds l : List D} {p C : Addr} {f : Str} {ks : List Str} {rest : List Stmt} {E : Ends}
theorem OB.get {H : Hp} {i : Nat} {a : Addr} {o : OD} (h : OB Hs M S m H) (hm : m[i]? = some (a, o)) : S a ∧ OAt S H a o := h.o.at' _ (List.mem_of_getElem? hm)
theorem ev_fO (i j : Nat) (ho : Ev X S e G W (.ref p) (OB Hs M S m)) (cl : Cls X.K C) (nf : NoAttr X.K C f) (hm : m[i]? = some (p, .ins C ks ds) := by rfl) (hk : ks[j]? = some f := by rfl) (hd : ds[j]? = some d := by rfl) (hb : attributeBase e f X.env (eval e X.env) = eval e X.env := by rfl) :
    Ev X S (.Attribute e f pos) G W d (OB Hs M S m) := ev_fld ho cl nf (fun H so w => by
  obtain ⟨dx, vs, e1, r, hl, nd, _⟩ := (w.get hm).2
  obtain ⟨v, hv, pv⟩ := r.get hd
  exact ⟨dx, _, v, e1, zip_lookup nd hk hv, pv⟩) hb
theorem blk_fO (i j : Nat) (hv : Ev X S v G W d (OB Hs M S m)) (ho : Ev X S o G (OB Hs M S m) (.ref p) (OB Hs M S m)) (cl : Cls X.K C) (nf : NoAttr X.K C f) (k : Blk X S rest E G (OB Hs M S (m.set i (p, .ins C ks (ds.set j d))))) (hm : m[i]? = some (p, .ins C ks ds) := by rfl) (hk : ks[j]? = some f := by rfl)
    (hs : swapsWith v (some (.Attribute o f pos')) pos.line X.env = pure false := by rfl) : Blk X S (.Assign [.Attribute o f pos'] v pos :: rest) E G W := blk_fld hv ho cl nf (fun H y so w py => by
  obtain ⟨s, dx, vs, e1, r, hl, nd, h9⟩ := w.get hm
  have el : vs.length = ks.length := r.len.trans hl
  refine ⟨dx, _, e1, Nat.lt_of_le_of_lt zip_len (by omega), s, w.put hm ?_⟩
  rw [zip_put nd hk el]
  exact ⟨dx, vs.set j y, upd_same, (DatL.set py j r).kept (kept_upd s), by rw [List.length_set]; exact hl, nd, h9⟩) k hs
/-- a new field -/
theorem blk_fN (i : Nat) (hv : Ev X S v G W d (OB Hs M S m)) (ho : Ev X S o G (OB Hs M S m) (.ref p) (OB Hs M S m)) (cl : Cls X.K C) (nf : NoAttr X.K C f) (k : Blk X S rest E G (OB Hs M S (m.set i (p, .ins C (ks ++ [f]) (ds ++ [d]))))) (hm : m[i]? = some (p, .ins C ks ds) := by rfl) (hk : f ∉ ks := by decide +kernel) (h9 : ks.length < 99 := by decide)
    (hs : swapsWith v (some (.Attribute o f pos')) pos.line X.env = pure false := by rfl) : Blk X S (.Assign [.Attribute o f pos'] v pos :: rest) E G W := blk_fld hv ho cl nf (fun H y so w py => by
  obtain ⟨s, dx, vs, e1, r, hl, nd, _⟩ := w.get hm
  have el : vs.length = ks.length := r.len.trans hl
  refine ⟨dx, _, e1, Nat.lt_of_le_of_lt zip_len (by omega), s, w.put hm ?_⟩
  rw [zip_putN hk el]
  refine ⟨dx, vs ++ [y], upd_same, (r.append (DatL.one py)).kept (kept_upd s), by rw [List.length_append, List.length_append, hl]; rfl, ?_, by rw [List.length_append]; exact Nat.succ_lt_succ h9⟩
  rw [List.nodup_append]
  exact ⟨nd, by simp, fun a ha b hb => by
    rw [List.mem_singleton] at hb
    subst hb
    rintro rfl
    exact hk ha⟩) k hs

/-! lists -/
theorem ev_appO (i : Nat) {a : Addr} (ho : Ev X S o G W (.ref a) (OB Hs M S m)) (he : Ev X S e G (OB Hs M S m) d (OB Hs M S m)) (hm : m[i]? = some (a, .lst l) := by rfl) (hl : l.length ≤ 1000 := by first | decide | omega | simp)
    (hbase : attributeBase o "append" X.env (eval o X.env) = eval o X.env := by rfl)
    (hfew : ((backTo cpos (starEach [e] X.env)).all (fun x => !x.1) && (backToKw cpos (keywordEach [] X.env)).all (fun x => x.1.isSome)
      && decide ([e].length + ([] : List Keyword).length + (if ([] : List Keyword).isEmpty then 0 else 1) < 30)) = true := by rfl)
    (hline : (apos.endLine == cpos.line) = true := by rfl) (hs : starEach [e] X.env = (false, eval e X.env) :: starEach [] X.env := by rfl) (hplain : (backTo cpos (starEach [] X.env)).any (·.1) = false := by rfl) :
    Ev X S (.Call (.Attribute o "append" apos) [e] [] cpos) G W .non (OB Hs M S (m.set i (a, .lst (l ++ [d])))) := ev_app (name := "append") ho he (fun H so w => by
  obtain ⟨s, vs, e1, r⟩ := w.get hm
  exact ⟨vs, e1⟩) (fun H v xs so w pv q => by
  obtain ⟨s, vs, e1, r⟩ := w.get hm
  cases e1.symm.trans q
  refine ⟨s, by rw [r.len]; omega, w.put hm ?_⟩
  exact ⟨xs ++ [v], upd_same, (r.append (DatL.one pv)).kept (kept_upd s)⟩) (fun H so w => by
  obtain ⟨s, vs, e1, r⟩ := w.get hm
  exact ⟨vs, e1⟩) hbase hfew hline hs hplain
theorem ev_extO (i : Nat) {a : Addr} (ho : Ev X S o G W (.ref a) W1) (hw1 : ∀ H, W1 H → ∃ xs, H a = some (.lst xs)) (he : Ev X S e G W1 (.lst ds) (OB Hs M S m)) (hm : m[i]? = some (a, .lst l) := by rfl) (hl : l.length + ds.length ≤ 1000 := by first | decide | omega | simp)
    (hbase : attributeBase o "extend" X.env (eval o X.env) = eval o X.env := by rfl)
    (hfew : ((backTo cpos (starEach [e] X.env)).all (fun x => !x.1) && (backToKw cpos (keywordEach [] X.env)).all (fun x => x.1.isSome)
      && decide ([e].length + ([] : List Keyword).length + (if ([] : List Keyword).isEmpty then 0 else 1) < 30)) = true := by rfl)
    (hline : (apos.endLine == cpos.line) = true := by rfl) (hs : starEach [e] X.env = (false, eval e X.env) :: starEach [] X.env := by rfl) (hplain : (backTo cpos (starEach [] X.env)).any (·.1) = false := by rfl) :
    Ev X S (.Call (.Attribute o "extend" apos) [e] [] cpos) G W .non (OB Hs M S (m.set i (a, .lst (l ++ ds)))) := fun σ H ty so w Q q =>
  ⟨_, pe_bm PySem.F.plainAttrs_list PySem.F.slot_list_extend PySem.F.type_list_extend mt_extend we_pe (pa_cons we_pe pa_nil hs) hbase hfew hline hs hplain, ho σ H ty so w _ fun x H1 k1 w1 p1 => by
    obtain ⟨xs, hx⟩ := hw1 H1 w1
    cases (show x = .ref a from p1)
    refine ⟨.inl ⟨rfl, xs, SqL.of hx⟩, he σ H1 (ty.kept k1) (so.kept k1) w1 _ fun v H2 k2 w2 p2 => ?_⟩
    obtain ⟨s, ys, e1, r⟩ := w2.get hm
    obtain ⟨b, zs, rfl, nb, hb, rz⟩ := p2
    refine ⟨a, b, ys, zs, rfl, rfl, e1, hb, ?_, q _ _ ((k1.trans k2).trans (kept_upd s)) (w2.put hm ⟨ys ++ zs, upd_same, (r.append rz).kept (kept_upd s)⟩) rfl⟩
    rw [r.len, rz.len]
    exact Nat.le_trans hl (by decide)⟩
/-- l.pop(0) -/
theorem ev_pop0 (i : Nat) {a : Addr} {j : Nat} {p1 : Pos} (ho : Ev X S o G W (.ref a) (OB Hs M S m)) (hm : m[i]? = some (a, .lst (d :: l)) := by rfl)
    (hbase : attributeBase o "pop" X.env (eval o X.env) = eval o X.env := by rfl)
    (hfew : ((backTo cpos (starEach [.Constant (.int 0) j p1] X.env)).all (fun x => !x.1) && (backToKw cpos (keywordEach [] X.env)).all (fun x => x.1.isSome)
      && decide ([Expr.Constant (.int 0) j p1].length + ([] : List Keyword).length + (if ([] : List Keyword).isEmpty then 0 else 1) < 30)) = true := by rfl)
    (hline : (apos.endLine == cpos.line) = true := by rfl) (hs : starEach [.Constant (.int 0) j p1] X.env = (false, eval (.Constant (.int 0) j p1) X.env) :: starEach [] X.env := by rfl) (hplain : (backTo cpos (starEach [] X.env)).any (·.1) = false := by rfl) :
    Ev X S (.Call (.Attribute o "pop" apos) [.Constant (.int 0) j p1] [] cpos) G W d (OB Hs M S (m.set i (a, .lst l))) := fun σ H ty so w Q q =>
  ⟨_, pe_bm PySem.F.plainAttrs_list PySem.F.slot_list_pop PySem.F.type_list_pop mt_popAt we_pe (pa_cons pe_int pa_nil hs) hbase hfew hline hs hplain, ho σ H ty so w _ fun x H1 k1 w1 p1 => by
    obtain ⟨s, ys, e1, r⟩ := w1.get hm
    obtain ⟨y, t, rfl, py, pt⟩ := r
    cases (show x = .ref a from p1)
    refine ⟨.inl ⟨rfl, _, SqL.of e1⟩, a, y :: t, 0, 0, y, rfl, rfl, e1, by decide, by decide, PyProof.Rows.seqIndex?_zero (Nat.succ_pos _), rfl, ?_⟩
    exact q _ _ (k1.trans (kept_upd s)) (w1.put hm ⟨t, upd_same, pt.kept (kept_upd s)⟩) (py.kept (kept_upd s))⟩
theorem ev_ixO (i : Nat) {p : Addr} {z : Int} (ha : Ev X S a G W (.ref p) W1) (hb : Ev X S b G W1 (.int z) (OB Hs M S m)) (hd : atI l z = some d) (hm : m[i]? = some (p, .lst l) := by rfl) (hs : PlainIx b := by exact fun _ _ => rfl) : Ev X S (.Subscript a b pos) G W d (OB Hs M S m) := fun σ H ty so w Q q =>
  ⟨_, pe_ix ix_list we_pe we_pe hs, ha σ H ty so w _ fun x H1 k1 w1 p1 => hb σ H1 (ty.kept k1) (so.kept k1) w1 _ fun y H2 k2 w2 p2 => by
    obtain ⟨s, ys, e1, r⟩ := w2.get hm
    cases (show x = .ref p from p1)
    cases (show y = .int z from p2)
    obtain ⟨v, hv, pv⟩ := atI_dat r hd
    exact ⟨p, ys, z, v, rfl, rfl, SqL.of e1, hv, q v H2 (k1.trans k2) w2 pv⟩⟩
theorem ev_lenO (i : Nat) {p : Addr} {pf : Pos} (ha : Ev X S a G W (.ref p) (OB Hs M S m)) (hb : X.mg "len" = none) (hv : bootBuiltins "len" = some (.builtin "len")) (hm : m[i]? = some (p, .lst l) := by rfl) (hg : Gl X "len" := by rfl)
    (hs : starEach [a] X.env = (false, eval a X.env) :: starEach [] X.env := by rfl) (hpl : (backTo pos (starEach [] X.env)).any (·.1) = false := by rfl) : Ev X S (.Call (.Name "len" pf) [a] [] pos) G W (.int (l.length : Int)) (OB Hs M S m) := fun σ H ty so w Q q => by
  refine ⟨_, pe_callB call_len_seq hg hb hv (pa_cons we_pe pa_nil hs) (by decide) (by decide) hs hpl, ha σ H ty so w _ fun x H1 k1 w1 p1 => ?_⟩
  obtain ⟨s, ys, e1, r⟩ := w1.get hm
  cases (show x = .ref p from p1)
  exact ⟨p, ys, rfl, .inl (SqL.of e1), q _ H1 k1 w1 (by rw [r.len]; rfl)⟩
theorem ev_slO (i : Nat) {p : Addr} {p2 : Pos} {lo hi : Option Expr} {oi oj : Option Int} (ha : Ev X S a G W (.ref p) W1) (hl : EvO X S lo G W1 oi W2) (hu : EvO X S hi G W2 oj (OB Hs M S m)) (hm : m[i]? = some (p, .lst l) := by rfl) : Ev X S (.Subscript a (.Slice lo hi none p2) pos) G W (.lst (cutD l oi oj)) (OB Hs M S m) := fun σ H ty so w Q q => by
  refine ⟨_, ⟨fun pins s σ H Q I z => (pe_slice (lo := lo) (hi := hi) (p2 := p2) (pos := pos) sl_list (we_pe (e := a)) (tl := fun σ H Q => ∃ t, PO X lo t ∧ t σ H Q) (th := fun σ H Q => ∃ t, PO X hi t ∧ t σ H Q) ⟨fun pins s σ H Q I ⟨t, c, z⟩ => c.run pins s σ H Q I z⟩ ⟨fun pins s σ H Q I ⟨t, c, z⟩ => c.run pins s σ H Q I z⟩).run pins s σ H Q I z⟩, ?_⟩
  refine ha σ H ty so w _ fun x H1 k1 w1 p1 => hl σ H1 (ty.kept k1) (so.kept k1) w1 _ fun H2 k2 w2 => hu σ H2 (ty.kept (k1.trans k2)) (so.kept (k1.trans k2)) w2 _ fun H3 k3 w3 => ?_
  obtain ⟨s, ys, e1, r⟩ := w3.get hm
  cases (show x = .ref p from p1)
  refine ⟨p, ys, rfl, SqL.of e1, fun n hn => q _ _ (((k1.trans k2).trans k3).trans (Same.kept (Same.new hn))) (w3.same (Same.new hn)) (dat_new_lst (so.kept ((k1.trans k2).trans k3)) hn ?_)⟩
  unfold cutV cutD
  rw [r.len]
  exact (r.drop _).take _
/-- a list of S as data off itself -/
theorem dat_of {H : Hp} {p : Addr} (h : OAt S H p (.lst l)) : Dat (fun b => S b ∧ b ≠ p) H (.ref p) (.lst l) := by
  obtain ⟨vs, e, r⟩ := h
  exact ⟨p, vs, rfl, fun z => z.2 rfl, e, DatL.off (fun _ _ z => z.1) _ _ r⟩
theorem et_cmpO (i : Nat) {op : CmpOp} {c : Bool} (ha : Ev X S a G W (.ref p) W1) (hb : Ev X S b G W1 db (OB Hs M S m)) (ho : CO X op (.lst l) db (.bl c)) (hm : m[i]? = some (p, .lst l) := by rfl) (hmk : behindInMarks op b = false := by first | exact nomark _ | rfl) : EvT X S (.Compare a [op] [b] pos) G W c (OB Hs M S m) := fun σ H ty so w Q q => by
  obtain ⟨r, hr, h⟩ := ho.ex
  refine ⟨_, pt_cmpR hr we_pe we_pe hmk, ha σ H ty so w _ fun x H1 k1 w1 p1 => hb σ H1 (ty.kept k1) (so.kept k1) w1 _ fun y H2 k2 w2 p2 => ?_⟩
  cases (show x = .ref p from p1)
  refine h (fun b => S b ∧ b ≠ p) H2 _ y (fun b z => so.kept (k1.trans k2) b z.1) (dat_of (w2.get hm).2) (Dat.off (fun _ _ z => z.1) _ _ p2) _ fun v H3 e p3 => ?_
  cases (show v = .bl c from p3)
  exact ⟨c, rfl, q H3 ((k1.trans k2).trans (Same.kept e)) (w2.same e)⟩
/-- l[k] = v -/
theorem blk_stO (i : Nat) {p : Addr} {z : Int} {j : Nat} (hv : Ev X S v G W d W1) (ha : Ev X S a G W1 (.ref p) W2) (hb : Ev X S b G W2 (.int z) (OB Hs M S m)) (hj : ixN l.length z = some j) (k : Blk X S rest E G (OB Hs M S (m.set i (p, .lst (l.set j d))))) (hm : m[i]? = some (p, .lst l) := by rfl)
    (hs : swapsWithSole [.Subscript a b pos'] v pos.line X.env = pure false := by rfl) (hw : swappedStores [.Subscript a b pos'] v X.env = pure none := by rfl)
    (h1 : (assignEach [.Subscript a b pos'] X.env).map (·.2) = [assign (.Subscript a b pos') X.env] := by rfl)
    (h2 : ∀ v, assign (.Subscript a b pos') X.env v = (do
      let ov ← holding [v] (eval a X.env)
      let iv ← holding [v, ov] (eval b X.env)
      standAt pos'
      holding [v, ov, iv] (setItem ov iv v)
      release [v, ov, iv] []) := by intro _; rfl) : Blk X S (.Assign [.Subscript a b pos'] v pos :: rest) E G W := fun σ H ty so w => by
  refine ⟨_, pss_cons (ps_asg we_pe (pg_sub we_pe we_pe set_list h2) hs hw h1) wb_pss, hv σ H ty so w _ fun y H1 k1 w1 p1 => ha σ H1 (ty.kept k1) (so.kept k1) w1 _ fun x H2 k2 w2 p2 => hb σ H2 (ty.kept (k1.trans k2)) (so.kept (k1.trans k2)) w2 _ fun u H3 k3 w3 p3 => ?_⟩
  obtain ⟨s, ys, e1, r⟩ := w3.get hm
  cases (show x = .ref p from p2)
  cases (show u = .int z from p3)
  have k4 := ((k1.trans k2).trans k3).trans (kept_upd (H := H3) (ob := .lst (ys.set j y)) s)
  refine ⟨p, ys, z, j, rfl, rfl, e1, by rw [r.len]; exact hj, k σ _ (ty.kept k4) (so.kept k4) (w3.put hm ⟨_, upd_same, (DatL.set ((p1.kept k2).kept k3) j r).kept (kept_upd s)⟩)⟩
/-! dicts -/
def odK : OD → Option (Option Int)
  | .dk0 => some none
  | .dk1 n _ => some (some n)
  | _ => none
theorem valV0 {k : Key} : valV ([] : List (Key × V)) k = none := rfl
theorem valV1 {n z : Int} {v : V} : (valV [((.inl n : Key), v)] (.inl z)).isSome = decide (n = z) := by
  by_cases c : n = z
  · subst c
    rw [valV_pos rfl, decide_eq_true rfl]
    rfl
  · rw [valV_neg fun q => c (Sum.inl.inj q), decide_eq_false c]
    rfl
theorem dget_at {H : Hp} {p : Addr} {od : OD} {on : Option Int} {z : Int} (h : OAt S H p od) (hk : odK od = some on) : ∃ r, DGet H p (.int z) r ∧ r.isSome = decide (on = some z) := by
  cases od with
  | dk0 =>
    cases hk
    exact ⟨_, DGet.k (k := .inl z) (show H p = some (.dK []) from h), rfl⟩
  | dk1 n d =>
    cases hk
    obtain ⟨v, e, _⟩ := h
    refine ⟨_, DGet.k (k := .inl z) e, valV1.trans ?_⟩
    by_cases c : n = z
    · rw [decide_eq_true c, c, decide_eq_true rfl]
    · rw [decide_eq_false c, decide_eq_false fun q => c (Option.some.inj q)]
  | ins C ks ds => cases hk
  | lst l => cases hk
theorem et_inO (i : Nat) {p : Addr} {z : Int} {od : OD} {on : Option Int} (hu : X.A.units + 1 < cLine) (ha : Ev X S a G W (.int z) W1) (hb : Ev X S b G W1 (.ref p) (OB Hs M S m)) (hk : odK od = some on := by rfl) (hm : m[i]? = some (p, od) := by rfl) (hmk : behindInMarks .In b = false := by rfl) : EvT X S (.Compare a [.In] [b] pos) G W (decide (on = some z)) (OB Hs M S m) := fun σ H ty so w Q q => by
  refine ⟨_, pt_cmp (pc_din hu we_pe we_pe) hmk, ha σ H ty so w _ fun x H1 k1 w1 p1 => hb σ H1 (ty.kept k1) (so.kept k1) w1 _ fun y H2 k2 w2 p2 => ?_⟩
  cases (show x = .int z from p1)
  cases (show y = .ref p from p2)
  obtain ⟨r, h1, h2⟩ := dget_at (z := z) (w2.get hm).2 hk
  refine ⟨p, r, rfl, h1, _, rfl, ?_⟩
  rw [h2]
  exact q H2 (k1.trans k2) w2
theorem et_ninO (i : Nat) {p : Addr} {z : Int} {od : OD} {on : Option Int} (hu : X.A.units + 1 < cLine) (ha : Ev X S a G W (.int z) W1) (hb : Ev X S b G W1 (.ref p) (OB Hs M S m)) (hk : odK od = some on := by rfl) (hm : m[i]? = some (p, od) := by rfl) (hmk : behindInMarks .NotIn b = false := by rfl) : EvT X S (.Compare a [.NotIn] [b] pos) G W (!decide (on = some z)) (OB Hs M S m) := fun σ H ty so w Q q => by
  refine ⟨_, pt_cmp (pc_dnotin hu we_pe we_pe) hmk, ha σ H ty so w _ fun x H1 k1 w1 p1 => hb σ H1 (ty.kept k1) (so.kept k1) w1 _ fun y H2 k2 w2 p2 => ?_⟩
  cases (show x = .int z from p1)
  cases (show y = .ref p from p2)
  obtain ⟨r, h1, h2⟩ := dget_at (z := z) (w2.get hm).2 hk
  refine ⟨p, r, rfl, h1, _, rfl, ?_⟩
  rw [h2]
  exact q H2 (k1.trans k2) w2
theorem blk_dput (i : Nat) {p : Addr} {z : Int} (hu : X.A.units + 1 < cLine) (hv : Ev X S v G W d W1) (ha : Ev X S a G W1 (.ref p) W2) (hb : Ev X S b G W2 (.int z) (OB Hs M S m)) (k : Blk X S rest E G (OB Hs M S (m.set i (p, .dk1 z d)))) (hm : m[i]? = some (p, .dk0) := by rfl)
    (hs : swapsWith v (some (.Subscript a b pos')) pos.line X.env = pure false := by rfl) : Blk X S (.Assign [.Subscript a b pos'] v pos :: rest) E G W := fun σ H ty so w => by
  refine ⟨_, pss_cons (ps_dput hu we_pe we_pe we_pe hs) wb_pss, hv σ H ty so w _ fun y H1 k1 w1 p1 => ha σ H1 (ty.kept k1) (so.kept k1) w1 _ fun x H2 k2 w2 p2 => hb σ H2 (ty.kept (k1.trans k2)) (so.kept (k1.trans k2)) w2 _ fun u H3 k3 w3 p3 => ?_⟩
  obtain ⟨s, e1⟩ := w3.get hm
  cases (show x = .ref p from p2)
  cases (show u = .int z from p3)
  have k4 := ((k1.trans k2).trans k3).trans (kept_upd (H := H3) (ob := .dK [(.inl z, y)]) s)
  exact ⟨p, _, rfl, DPut.k (k := .inl z) (show H3 p = some (.dK []) from e1) (by decide), k σ _ (ty.kept k4) (so.kept k4) (w3.put hm ⟨y, upd_same, ((p1.kept k2).kept k3).kept (kept_upd s)⟩)⟩
theorem ev_dpop (i : Nat) {p : Addr} {z : Int} (ha : Ev X S a G W (.ref p) (OB Hs M S m)) (hb : Ev X S b G (OB Hs M S m) (.int z) (OB Hs M S m)) (m1 : M1 X a "pop" apos b cpos := by exact ⟨rfl, rfl, rfl, rfl⟩) (hm : m[i]? = some (p, .dk1 z d) := by rfl) : Ev X S (.Call (.Attribute a "pop" apos) [b] [] cpos) G W d (OB Hs M S (m.set i (p, .dk0))) := fun σ H ty so w Q q => by
  refine ⟨_, pe_dpop1 we_pe we_pe m1, ha σ H ty so w _ fun x H1 k1 w1 p1 => ?_⟩
  cases (show x = .ref p from p1)
  obtain ⟨_, v0, e0, _⟩ := w1.get hm
  refine ⟨p, rfl, .inl ⟨_, .inl e0⟩, hb σ H1 (ty.kept k1) (so.kept k1) w1 _ fun y H2 k2 w2 p2 => ?_⟩
  obtain ⟨s, v, e1, pv⟩ := w2.get hm
  cases (show y = .int z from p2)
  refine ⟨_, .inl z, v, e1, rfl, valV_pos rfl, ?_⟩
  have e2 : dropK [((.inl z : Key), v)] (.inl z) = [] := by
    unfold dropK
    rw [List.filter_cons, if_neg (by simp)]
    rfl
  rw [e2]
  exact q v _ ((k1.trans k2).trans (kept_upd s)) (w2.put hm upd_same) (pv.kept (kept_upd s))
end
end Ink
/-! Ink13 -/
/-! The D-layer: new objects; promises about objects; calls that change them. -/
namespace Ink
open PySem PySem.Spec PyProof.Rows L2
/-- a new thing of one object: at a new address stands what od says -/
def EvF (X : Cx) (S : Set') (e : Expr) (G : Gm) (W : As) (od : OD) (W' : As) : Prop :=
  ∀ σ H, Ty S H σ G → SOk S H → W H → ∀ Q : VK, (∀ a H', H a = none → Kept S H H' → Same H H' → W' H' → OAt (wid S (· = a)) H' a od → Q (.ref a) H') → WE X e σ H Q
section
variable {X : Cx} {S M : Set'} {Hs : Hp} {m m' : Ms} {G : Gm} {W W1 W2 W3 W' : As} {pos apos pos' cpos : Pos} {o e v a b : Expr} {es : List Expr} {d da db : D} {ds l : List D} {p C c : Addr} {f x : Str} {ks : List Str} {rest : List Stmt} {E : Ends} {od : OD} {k j n : Nat}
theorem evf_nil (hs : Stb W) : EvF X S (.List [] pos) G W (.lst []) W := fun σ H ty so w Q q =>
  ⟨_, pe_lst pa_nil, by decide, fun p hp => q p _ hp (Same.kept (Same.new hp)) (Same.new hp) (hs _ _ w (Same.new hp)) ⟨[], upd_same, rfl⟩⟩
theorem evf_dict (hs : Stb W) : EvF X S (.Dict [] [] pos) G W .dk0 W := fun σ H ty so w Q q =>
  ⟨_, pe_dnewK, fun p hp => q p _ hp (Same.kept (Same.new hp)) (Same.new hp) (hs _ _ w (Same.new hp)) upd_same⟩
/-- flat data does not care for the set -/
def flatB : D → Bool
  | .non => true
  | .bl _ => true
  | .int _ => true
  | .str _ => true
  | _ => false
theorem flat_dat {S S' : Set'} {H H' : Hp} {v : V} : ∀ {d : D}, flatB d = true → Dat S H v d → Dat S' H' v d
  | .non, _, h => h
  | .bl _, _, h => h
  | .int _, _, h => h
  | .str _, _, h => h
theorem flat_datL {S S' : Set'} {H H' : Hp} : ∀ {ds : List D} {vs : List V}, ds.all flatB = true → DatL S H vs ds → DatL S' H' vs ds
  | [], _, _, h => h
  | d :: ds, _, e, h => by
    obtain ⟨v, r, q, p, pr⟩ := h
    rw [List.all_cons, Bool.and_eq_true] at e
    exact ⟨v, r, q, flat_dat e.1 p, flat_datL e.2 pr⟩
/-- by data off all that stands -/
theorem evf_flat {G' : Gm} (hl : l.all flatB = true) (hlen : G'.length = G.length) (hG : ∀ (i : Nat) (d : D), G'[i]? = some (some d) → G[i]? = some (some d) ∧ flatB d = true) (hk : ∀ H0, W H0 → ∀ S', Ev X S' e G' (fun H => W H ∧ Same H0 H) (.lst l) (fun H => W' H ∧ Same H0 H)) : EvF X S e G W (.lst l) W' := fun σ H ty so w Q q => by
  refine hk H w (fun b => H b ≠ none) σ H ⟨ty.1.trans hlen.symm, fun i d e => ?_⟩ (fun b z => z) ⟨w, Same.refl H⟩ Q fun v H' k w' p => ?_
  · obtain ⟨e1, e2⟩ := hG i d e
    obtain ⟨v, hv, pv⟩ := ty.2 i d e1
    exact ⟨v, hv, flat_dat e2 pv⟩
  · obtain ⟨a, vs, rfl, na, ha, r⟩ := p
    have hn : H a = none := Classical.byContradiction na
    exact q a H' hn (Same.kept w'.2) w'.2 w'.1 ⟨vs, ha, flat_datL hl r⟩
theorem blk_setF (i : Nat) (h : EvF X S e G W od (OB Hs M S m)) (k : ∀ a, ¬ S a → Blk X (wid S (· = a)) rest E (G.set i (some (.ref a))) (OB Hs M (wid S (· = a)) (m ++ [(a, od)]))) (hW : ∀ H, W H → OB Hs M S m H) (hN : X.N.Nodup) (hi : X.N[i]? = some x := by rfl) (hx : Loc X.env.scope x := by first | exact Or.inl rfl | exact Or.inr rfl) (hs : swapsWith e (some (.Name x pos')) pos.line X.env = pure false := by rfl)
    (hf : X.fn x = true ∨ X.env.scope.names.lookup x = some .local := by first | exact .inl rfl | exact .inr rfl) : Blk X S (.Assign [.Name x pos'] e pos :: rest) E G W := fun σ H ty so w => by
  refine ⟨_, pss_cons (ps_set hN hi hx we_pe hs hf) wb_pss, h σ H ty so w _ fun a H1 na k1 s1 w1 oa => ?_⟩
  have hN : ∀ b, (b = a) → H b = none := fun b e => by rw [e]; exact na
  have t1 : Ty (wid S (· = a)) H1 σ G := (ty.off (wid_off hN)).kept (Same.kept s1)
  refine k a (so.new na) _ H1 (t1.set i (d := .ref a) rfl) (fun b z => ?_) ((hW H w).more hN ((Same.kept s1).weak fun _ z => z) ⟨by simp, fun y hy => ?_⟩ fun y hy => ?_)
  · rcases z with z | z
    · exact so.kept k1 b z
    · rw [z]
      exact oa.has
  · rw [List.mem_singleton] at hy
    subst hy
    exact ⟨.inr rfl, oa⟩
  · rw [List.mem_singleton] at hy
    subst hy
    rfl
/-- self.f = a new thing, f a new field -/
theorem blk_fNF (i : Nat) (h : EvF X S v G W od (OB Hs M S m)) (hW : ∀ H, W H → OB Hs M S m H) (ho : ∀ S m, Ev X S o G (OB Hs M S m) (.ref p) (OB Hs M S m)) (cl : Cls X.K C) (nf : NoAttr X.K C f) (k : ∀ a, ¬ S a → Blk X (wid S (· = a)) rest E G (OB Hs M (wid S (· = a)) ((m ++ [(a, od)]).set i (p, .ins C (ks ++ [f]) (ds ++ [.ref a]))))) (hm : m[i]? = some (p, .ins C ks ds) := by rfl) (hk : f ∉ ks := by decide +kernel) (h9 : ks.length < 99 := by decide)
    (hs : swapsWith v (some (.Attribute o f pos')) pos.line X.env = pure false := by rfl) : Blk X S (.Assign [.Attribute o f pos'] v pos :: rest) E G W := fun σ H ty so w => by
  refine ⟨_, pss_cons (ps_fld we_pe we_pe hs) wb_pss, h σ H ty so w _ fun a H1 na k1 s1 w1 oa => ?_⟩
  have hN : ∀ b, (b = a) → H b = none := fun b e => by rw [e]; exact na
  have t1 : Ty (wid S (· = a)) H1 σ G := (ty.off (wid_off hN)).kept (Same.kept s1)
  have so1 : SOk (wid S (· = a)) H1 := fun b z => by
    rcases z with z | z
    · exact so.kept k1 b z
    · rw [z]
      exact oa.has
  have w2 : OB Hs M (wid S (· = a)) (m ++ [(a, od)]) H1 := (hW H w).more hN ((Same.kept s1).weak fun _ z => z) ⟨by simp, fun y hy => by
    rw [List.mem_singleton] at hy
    subst hy
    exact ⟨.inr rfl, oa⟩⟩ fun y hy => by
    rw [List.mem_singleton] at hy
    subst hy
    rfl
  refine ho _ _ σ H1 t1 so1 w2 _ fun u H2 k2 w3 p2 => ?_
  cases (show u = .ref p from p2)
  have hi : i < m.length := (List.getElem?_eq_some_iff.mp hm).1
  have hm2 : (m ++ [(a, od)])[i]? = some (p, .ins C ks ds) := by rw [List.getElem?_append_left hi]; exact hm
  obtain ⟨s, dx, vs, e1, r, hl, nd, _⟩ := w3.get hm2
  have el : vs.length = ks.length := r.len.trans hl
  have k3 : Kept (wid S (· = a)) H2 (upd H2 p (.ins C dx (putF f (.ref a) (ks.zip vs)))) := kept_upd s
  refine ⟨p, C, dx, _, rfl, e1, cl, nf, Nat.lt_of_le_of_lt zip_len (by omega), k a (so.new na) σ _ (t1.kept (k2.trans k3)) (so1.kept (k2.trans k3)) (w3.put hm2 ?_)⟩
  rw [zip_putN hk el]
  refine ⟨dx, vs ++ [.ref a], upd_same, (r.append (DatL.one (d := .ref a) rfl)).kept (kept_upd s), by rw [List.length_append, List.length_append, hl]; rfl, ?_, by rw [List.length_append]; exact Nat.succ_lt_succ h9⟩
  rw [List.nodup_append]
  exact ⟨nd, by simp, fun a ha b hb => by
    rw [List.mem_singleton] at hb
    subst hb
    rintro rfl
    exact hk ha⟩

/-! ### promises about objects -/
abbrev Trm := Ms → List D → Res → Ms → Prop
def PostO (S : Set') (m : Ms) (H : Hp) (r : Res) (m' : Ms) (Q : VK) (E : XK) : Prop :=
  match r with
  | .ok d => ∀ v H', Kept (adr m) H H' → Ob S m' H' → Dat S H' v d → Q v H'
  | .exc c => ∀ H', Kept (adr m) H H' → Ob S m' H' → E (.ref c) none H'
def spO (n : Nat) (R : Trm) : Sp := fun vs H Q E => ∃ S m ds r m', SOk S H ∧ DatL S H vs ds ∧ ds.length = n ∧ Ob S m H ∧ R m ds r m' ∧ PostO S m H r m' Q E
abbrev Ko (B : Bs) (x : Str) (k n : Nat) (R : Trm) : Prop := Kd B x k (spO n R)
abbrev Kmo (B : Bs) (C : Addr) (x : Str) (k n : Nat) (R : Trm) : Prop := KM B C x k (spO n R)
theorem spO_len {n : Nat} {R : Trm} {vs : List V} {H : Hp} {Q : VK} {E : XK} (h : spO n R vs H Q E) : vs.length = n := by
  obtain ⟨S, m, ds, r, m', _, hd, hl, _⟩ := h
  rw [hd.len, hl]
theorem Ob.OB {S : Set'} {m : Ms} {H : Hp} (h : Ob S m H) : Ink.OB H (adr m) S m H := ⟨Kept.refl H, fun x hx => .inl (List.mem_map.mpr ⟨x, hx, rfl⟩), h⟩
theorem bodyO {B : Bs} {q : Str} {st : Stmt} {N : List Str} {n : Nat} {R : Trm} {f : Addr} {cdv : Value} {A : Around} {outer : List Env} {s : Shared} {H : Hp} {vs : List V} {Q : VK} {E : XK} (h : spO n R vs H Q E) (hN : n ≤ N.length)
    (body : ∀ (S : Set') (m : Ms) (ds : List D) (r : Res) (m' : Ms), ds.length = n → R m ds r m' → (∀ x ∈ m, S x.1) → PostO S m H r m' Q E →
      Blk (cx B N q st f cdv A outer s H E) S (defBody st) { nx := fun _ H' => Q .non H', rt := Q } (ds.map some ++ List.replicate (N.length - n) none) (OB H (adr m) S m)) :
    WB (cx B N q st f cdv A outer s H E) (defBody st) { nx := fun _ H' => Q .non H', rt := Q } (L2.start N vs) H := by
  obtain ⟨S, m, ds, r, m', so, hd, hl, hw, hR, hp⟩ := h
  have t := ty_start (N := N) hd (by rw [hl]; exact hN)
  rw [hl] at t
  exact body S m ds r m' hl hR (fun x hx => (hw.at' x hx).1) hp _ H t so hw.OB
abbrev BodyO (B : Bs) (x : Str) (st : Stmt) (f : Addr) (N : List Str) (k n : Nat) (R : Trm) : Prop := ∀ (cdv : Value) (A : Around) (outer : List Env) (s : Shared) (H : Hp) (Q : VK) (E : XK), Room k (cx B N x st f cdv A outer s H E).A → ∀ (S : Set') (m : Ms) (ds : List D) (r : Res) (m' : Ms), ds.length = n → R m ds r m' → (∀ x ∈ m, S x.1) → PostO S m H r m' Q E →
      Blk (cx B N x st f cdv A outer s H E) S (defBody st) { nx := fun _ H' => Q .non H', rt := Q } (ds.map some ++ List.replicate (N.length - n) none) (OB H (adr m) S m)
theorem ko_of {B : Bs} {x : Str} {st : Stmt} {f : Addr} {fd : FuncData} {N ps : List Str} {k n : Nat} {R : Trm} (F : Fun B.K x x st f fd) (m : B.mg x = some (.ref f)) (hb : Binds B.K fd ps []) (sc : FnScope N ps (defScope st)) (hn : n = ps.length) (hN : n ≤ N.length) (body : BodyO B x st f N k n R) : Ko B x (k + 1) n R :=
  kd_of F m hb sc (fun vs H Q E h => (spO_len h).trans hn) fun cdv A outer s H vs Q E hr h => bodyO h hN (body cdv A outer s H Q E hr)
theorem kmo_of {B : Bs} {C : Addr} {x q : Str} {st : Stmt} {f : Addr} {fd : FuncData} {N ps : List Str} {k n : Nat} {R : Trm} (F : Fun B.K x q st f fd) (m : Meth B.K C x f) (hb : Binds B.K fd ps []) (sc : FnScope N ps (defScope st)) (hn : n = ps.length) (hN : n ≤ N.length) (body : BodyO B q st f N k n R) : Kmo B C x (k + 1) n R := by
  obtain ⟨oc, od, kV, doc, pm, an, cdv, ct, osl, e, lk, hcd⟩ := F.ex
  refine ⟨f, fd, ps, ?_, m, hb⟩
  subst e
  exact fn_of lk hcd sc (fun vs H Q E h => (spO_len h).trans hn) fun A outer s H vs Q E hr h => bodyO h hN (body cdv A outer s H Q E hr)
/-- the caller's side -/
theorem OB.cut {H : Hp} {l r : Ms} (h : OB Hs M S (l ++ (m ++ r)) H) : Ob S m H := h.o.right.left
theorem OB.back {H H' : Hp} {l r m m' : Ms} (h : OB Hs M S (l ++ (m ++ r)) H) (k : Kept (adr m) H H') (o : Ob S m' H') (e : m'.map (·.1) = m.map (·.1)) : OB Hs M S (l ++ (m' ++ r)) H' := by
  have em : (l ++ (m' ++ r)).map (·.1) = (l ++ (m ++ r)).map (·.1) := by simp [e]
  have nd := h.o.nd
  have fr : ∀ b, adr m b → M b ∨ Hs b = none := fun b z => by
    obtain ⟨x, hx, rfl⟩ := List.mem_map.mp z
    exact h.f x (List.mem_append_right _ (List.mem_append_left _ hx))
  have kS : ∀ b, adr m b → S b := fun b z => by
    obtain ⟨x, hx, rfl⟩ := List.mem_map.mp z
    exact (h.o.at' x (List.mem_append_right _ (List.mem_append_left _ hx))).1
  rw [List.map_append, List.map_append] at nd
  obtain ⟨n1, n2, n3⟩ := List.nodup_append.mp nd
  obtain ⟨n4, n5, n6⟩ := List.nodup_append.mp n2
  have ol : Ob S l H' := h.o.left.kept k kS fun x hx z => n3 _ (List.mem_map.mpr ⟨x, hx, rfl⟩) _ (List.mem_append_left _ z) rfl
  have or : Ob S r H' := h.o.right.right.kept k kS fun x hx z => n6 _ z _ (List.mem_map.mpr ⟨x, hx, rfl⟩) rfl
  refine ⟨⟨fun b q e n => k.1 b q (h.k.1 b q e n) fun z => ?_, fun b e => h.k.2 b (k.2 b e)⟩, fun x hx => ?_, by rw [em]; exact h.o.nd, fun x hx => ?_⟩
  · rcases fr b z with y | y
    · exact n y
    · rw [y] at e
      cases e
  · have : x.1 ∈ (l ++ (m ++ r)).map (·.1) := by rw [← em]; exact List.mem_map.mpr ⟨x, hx, rfl⟩
    obtain ⟨y, hy, e⟩ := List.mem_map.mp this
    rw [← e]
    exact h.f y hy
  · rcases List.mem_append.mp hx with z | z
    · exact ol.at' x z
    rcases List.mem_append.mp z with z | z
    · exact o.at' x z
    · exact or.at' x z
theorem cutS_sub {H : Hp} {l r : Ms} (h : OB Hs M S (l ++ (m ++ r)) H) : ∀ b, adr m b → S b := fun b z => by
  obtain ⟨x, hx, rfl⟩ := List.mem_map.mp z
  exact (h.o.at' x (List.mem_append_right _ (List.mem_append_left _ hx))).1
variable {R : Trm} {l r mm mm' : Ms}
theorem ev_callO (l r m m' : Ms) {pf : Pos} (h : Ko (bsOf X) x k n R) (hr : Room j X.A) (ha : EvA X S (e :: es) G W ds (OB Hs M S mm)) (hR : R m ds (.ok d) m') (em : mm = l ++ (m ++ r) := by rfl) (em' : mm' = l ++ (m' ++ r) := by rfl) (ea : m'.map (·.1) = m.map (·.1) := by rfl) (hn : ds.length = n := by rfl) (hj : k ≤ j := by decide) (hg : Gl X x := by rfl)
    (hdb : (x == ("__debug__" : Str)) = false := by decide) (he : starEach (e :: es) X.env = (false, eval e X.env) :: starEach es X.env := by rfl) (hpl : (backTo pos (starEach es X.env)).any (·.1) = false := by rfl) : Ev X S (.Call (.Name x pf) (e :: es) [] pos) G W d (OB Hs M S mm') := fun σ H ty so w Q q => by
  subst em em'
  obtain ⟨f, fd, ps, FF, hm, hk, hb⟩ := h
  exact ⟨_, pe_callS FF (hr.mono hj) hg hm hk hb (fun σ => pass_f) wa_pa hdb he hpl, ha σ H ty so w _ fun vs H1 k1 w1 p1 => ⟨S, m, ds, .ok d, m', so.kept k1, p1, hn, w1.cut, hR, fun v H2 k2 o2 p2 => q v H2 (k1.trans (k2.weak (cutS_sub w1))) (w1.back k2 o2 ea) p2⟩⟩
theorem evx_callO (l r m m' : Ms) {pf : Pos} (h : Ko (bsOf X) x k n R) (hr : Room j X.A) (ha : EvA X S (e :: es) G W ds (OB Hs M S mm)) (hR : R m ds (.exc c) m') (em : mm = l ++ (m ++ r) := by rfl) (em' : mm' = l ++ (m' ++ r) := by rfl) (ea : m'.map (·.1) = m.map (·.1) := by rfl) (hn : ds.length = n := by rfl) (hj : k ≤ j := by decide) (hg : Gl X x := by rfl)
    (hdb : (x == ("__debug__" : Str)) = false := by decide) (he : starEach (e :: es) X.env = (false, eval e X.env) :: starEach es X.env := by rfl) (hpl : (backTo pos (starEach es X.env)).any (·.1) = false := by rfl) : EvX X S (.Call (.Name x pf) (e :: es) [] pos) G W c (OB Hs M S mm') := fun σ H ty so w Ex tk q Q => by
  subst em em'
  obtain ⟨f, fd, ps, FF, hm, hk, hb⟩ := h
  exact ⟨_, pe_callS FF (hr.mono hj) hg hm hk hb (fun σ pins H s e s' I c => pass_x tk pins σ H s e s' I c) (E := fun _ => wish Ex) wa_pa hdb he hpl, ha σ H ty so w _ fun vs H1 k1 w1 p1 => ⟨S, m, ds, .exc c, m', so.kept k1, p1, hn, w1.cut, hR, fun H2 k2 o2 => ⟨c, rfl, rfl, q H2 (k1.trans (k2.weak (cutS_sub w1))) (w1.back k2 o2 ea)⟩⟩⟩
variable {mt : Str}
theorem ins_at {H : Hp} {i : Nat} (h : OB Hs M S m H) (hm : m[i]? = some (p, .ins C ks ds)) (hk : mt ∉ ks) : ∃ dx fs, H p = some (.ins C dx fs) ∧ fs.lookup mt = none := by
  obtain ⟨s, dx, vs, e1, r⟩ := h.get hm
  exact ⟨dx, _, e1, zip_none hk⟩
theorem ev_methO (l r m m' : Ms) (i : Nat) {ms0 : Ms} {pl : Sem Bool} {cs : List D} (h : Kmo (bsOf X) C mt k n R) (cl : Cls X.K C) (hr : Room j X.A) (ho : Ev X S o G W (.ref p) (OB Hs M S ms0)) (ha : EvA X S (e :: es) G (OB Hs M S ms0) ds (OB Hs M S mm)) (hR : R m (.ref p :: ds) (.ok d) m') (hi : ms0[i]? = some (p, .ins C ks cs) := by rfl) (hmt : mt ∉ ks := by decide +kernel) (em : mm = l ++ (m ++ r) := by rfl) (em' : mm' = l ++ (m' ++ r) := by rfl) (ea : m'.map (·.1) = m.map (·.1) := by rfl)
    (hn : (D.ref p :: ds).length = n := by rfl) (hj : k ≤ j := by decide)
    (hst : starEach (e :: es) X.env = (false, eval e X.env) :: starEach es X.env := by rfl) (hpl : (backTo pos (starEach es X.env)).any (·.1) = false := by rfl)
    (ht : eval (.Call (.Attribute o mt apos) (e :: es) [] pos) X.env = (do
      let ov ← eval o X.env
      standAt apos.atName
      let (f, first) ← holding [ov] (getMethod ov mt pl)
      callWith pos f first (backTo pos (starEach (e :: es) X.env)) (backToKw pos (keywordEach [] X.env))) := by rfl) : Ev X S (.Call (.Attribute o mt apos) (e :: es) [] pos) G W d (OB Hs M S mm') := fun σ H ty so w Q q => by
  subst em em'
  obtain ⟨f, fd, ps, FF, hm, hb⟩ := h
  refine ⟨_, pe_meth we_pe cl hm FF (hr.mono hj) hb .nil pass_fa wa_pa hst hpl ht, ho σ H ty so w _ fun v H1 k1 w1 p1 => ?_⟩
  obtain ⟨dx, fs, e1, e2⟩ := ins_at w1 hi hmt
  cases (show v = .ref p from p1)
  refine ⟨p, dx, fs, rfl, e1, e2, ha σ H1 (ty.kept k1) (so.kept k1) w1 _ fun vs H2 k2 w2 p2 => ?_⟩
  rw [List.append_nil]
  exact ⟨S, m, .ref p :: ds, .ok d, m', so.kept (k1.trans k2), ⟨_, vs, rfl, rfl, p2⟩, hn, w2.cut, hR, fun v H3 k3 o3 p3 => q v H3 ((k1.trans k2).trans (k3.weak (cutS_sub w2))) (w2.back k3 o3 ea) p3⟩
theorem evx_methO (l r m m' : Ms) (i : Nat) {ms0 : Ms} {pl : Sem Bool} {cs : List D} (h : Kmo (bsOf X) C mt k n R) (cl : Cls X.K C) (hr : Room j X.A) (ho : Ev X S o G W (.ref p) (OB Hs M S ms0)) (ha : EvA X S (e :: es) G (OB Hs M S ms0) ds (OB Hs M S mm)) (hR : R m (.ref p :: ds) (.exc c) m') (hi : ms0[i]? = some (p, .ins C ks cs) := by rfl) (hmt : mt ∉ ks := by decide +kernel) (em : mm = l ++ (m ++ r) := by rfl) (em' : mm' = l ++ (m' ++ r) := by rfl) (ea : m'.map (·.1) = m.map (·.1) := by rfl)
    (hn : (D.ref p :: ds).length = n := by rfl) (hj : k ≤ j := by decide)
    (hst : starEach (e :: es) X.env = (false, eval e X.env) :: starEach es X.env := by rfl) (hpl : (backTo pos (starEach es X.env)).any (·.1) = false := by rfl)
    (ht : eval (.Call (.Attribute o mt apos) (e :: es) [] pos) X.env = (do
      let ov ← eval o X.env
      standAt apos.atName
      let (f, first) ← holding [ov] (getMethod ov mt pl)
      callWith pos f first (backTo pos (starEach (e :: es) X.env)) (backToKw pos (keywordEach [] X.env))) := by rfl) : EvX X S (.Call (.Attribute o mt apos) (e :: es) [] pos) G W c (OB Hs M S mm') := fun σ H ty so w Ex tk q Q => by
  subst em em'
  obtain ⟨f, fd, ps, FF, hm, hb⟩ := h
  refine ⟨_, pe_meth we_pe cl hm FF (hr.mono hj) hb .nil (pass_x tk) wa_pa hst hpl ht, ho σ H ty so w _ fun v H1 k1 w1 p1 => ?_⟩
  obtain ⟨dx, fs, e1, e2⟩ := ins_at w1 hi hmt
  cases (show v = .ref p from p1)
  refine ⟨p, dx, fs, rfl, e1, e2, ha σ H1 (ty.kept k1) (so.kept k1) w1 _ fun vs H2 k2 w2 p2 => ?_⟩
  rw [List.append_nil]
  exact ⟨S, m, .ref p :: ds, .exc c, m', so.kept (k1.trans k2), ⟨_, vs, rfl, rfl, p2⟩, hn, w2.cut, hR, fun H3 k3 o3 => ⟨c, rfl, rfl, q H3 ((k1.trans k2).trans (k3.weak (cutS_sub w2))) (w2.back k3 o3 ea)⟩⟩
theorem ev_meth0O (l r m m' : Ms) (i : Nat) {pl : Sem Bool} {cs : List D} (h : Kmo (bsOf X) C mt k 1 R) (cl : Cls X.K C) (hr : Room j X.A) (ho : Ev X S o G W (.ref p) (OB Hs M S mm)) (hR : R m [.ref p] (.ok d) m') (hi : mm[i]? = some (p, .ins C ks cs) := by rfl) (hmt : mt ∉ ks := by decide +kernel) (em : mm = l ++ (m ++ r) := by rfl) (em' : mm' = l ++ (m' ++ r) := by rfl) (ea : m'.map (·.1) = m.map (·.1) := by rfl) (hj : k ≤ j := by decide)
    (ht : eval (.Call (.Attribute o mt apos) [] [] pos) X.env = (do
      let ov ← eval o X.env
      standAt apos.atName
      let (f, first) ← holding [ov] (getMethod ov mt pl)
      callWith pos f first (backTo pos (starEach [] X.env)) (backToKw pos (keywordEach [] X.env))) := by rfl) : Ev X S (.Call (.Attribute o mt apos) [] [] pos) G W d (OB Hs M S mm') := fun σ H ty so w Q q => by
  obtain ⟨f, fd, ps, FF, hm, hb⟩ := h
  refine ⟨_, pe_meth0 we_pe cl hm FF (hr.mono hj) hb .nil pass_fa ht, ho σ H ty so w _ fun v H1 k1 w1 p1 => ?_⟩
  obtain ⟨dx, fs, e1, e2⟩ := ins_at w1 hi hmt
  subst em em'
  cases (show v = .ref p from p1)
  exact ⟨p, dx, fs, rfl, e1, e2, S, m, [.ref p], .ok d, m', so.kept k1, ⟨_, [], rfl, rfl, rfl⟩, rfl, w1.cut, hR, fun v H3 k3 o3 p3 => q v H3 (k1.trans (k3.weak (cutS_sub w1))) (w1.back k3 o3 ea) p3⟩

/-! ### new instances -/
/-- what __init__ makes of new data: an error, or the objects at the new addresses -/
abbrev Ini := List D → Option Addr → (Addr → List Addr → Ms) → Prop
def spI (C : Addr) (n : Nat) (R : Ini) : Sp := fun vs H Q E => ∃ S p us ds oc mk, SOk S H ∧ vs = .ref p :: us ∧ ¬ S p ∧ OAt (wid S (· = p)) H p (.ins C [] []) ∧ DatL (wid S (· = p)) H us ds ∧ ds.length = n ∧ R ds oc mk ∧
  match oc with
  | none => ∀ (as : List Addr) H', (∀ a ∈ as, H a = none) → Kept (· = p) H H' → Ob (wid S (adr (mk p as))) (mk p as) H' → (∀ x ∈ mk p as, x.1 = p ∨ x.1 ∈ as) → Q .non H'
  | some c => ∀ H', Kept (· = p) H H' → E (.ref c) none H'
theorem spI_len {C : Addr} {n : Nat} {R : Ini} {vs : List V} {H : Hp} {Q : VK} {E : XK} (h : spI C n R vs H Q E) : vs.length = n + 1 := by
  obtain ⟨S, p, us, ds, oc, mk, _, rfl, _, _, hd, hl, _⟩ := h
  rw [List.length_cons, hd.len, hl]
abbrev Kmi (B : Bs) (C : Addr) (k n : Nat) (R : Ini) : Prop := ∃ f fd ps, FnOk B.P B.w B.K B.mg B.base (CXN B) k f fd ps (spI C n R) ∧ Mk B.K C f ∧ Binds B.K fd ps []
theorem kmi_of {B : Bs} {C : Addr} {q : Str} {st : Stmt} {f : Addr} {fd : FuncData} {N ps : List Str} {k n : Nat} {R : Ini} (F : Fun B.K "__init__" q st f fd) (m : Mk B.K C f) (hb : Binds B.K fd ps []) (sc : FnScope N ps (defScope st)) (hn : n + 1 = ps.length) (hN : n + 1 ≤ N.length)
    (body : ∀ (cdv : Value) (A : Around) (outer : List Env) (s : Shared) (H : Hp) (Q : VK) (E : XK), Room k (cx B N q st f cdv A outer s H E).A → ∀ (S : Set') (p : Addr) (ds : List D) (oc : Option Addr) (mk : Addr → List Addr → Ms), ds.length = n → R ds oc mk → ¬ S p →
      (match oc with
        | none => ∀ (as : List Addr) H', (∀ a ∈ as, H a = none) → Kept (· = p) H H' → Ob (wid S (adr (mk p as))) (mk p as) H' → (∀ x ∈ mk p as, x.1 = p ∨ x.1 ∈ as) → Q .non H'
        | some c => ∀ H', Kept (· = p) H H' → E (.ref c) none H') →
      Blk (cx B N q st f cdv A outer s H E) (wid S (· = p)) (defBody st) { nx := fun _ H' => Q .non H', rt := Q } (some (.ref p) :: ds.map some ++ List.replicate (N.length - (n + 1)) none) (OB H (· = p) (wid S (· = p)) [(p, .ins C [] [])])) : Kmi B C (k + 1) n R := by
  obtain ⟨oc, od, kV, doc, pm, an, cdv, ct, osl, e, lk, hcd⟩ := F.ex
  refine ⟨f, fd, ps, ?_, m, hb⟩
  subst e
  refine fn_of lk hcd sc (fun vs H Q E h => (spI_len h).trans hn) fun A outer s H vs Q E hr h => ?_
  obtain ⟨S, p, us, ds, oc, mk, so, rfl, np, ho, hd, hl, hR, hp⟩ := h
  have so2 : SOk (wid S (· = p)) H := fun b z => by
    rcases z with z | z
    · exact so b z
    · rw [z]
      exact ho.has
  have hd2 : DatL (wid S (· = p)) H (.ref p :: us) (.ref p :: ds) := ⟨_, us, rfl, rfl, hd⟩
  have t := ty_start (N := N) hd2 (by rw [List.length_cons, hl]; exact hN)
  rw [List.length_cons, hl] at t
  refine body cdv A outer s H Q E hr S p ds oc mk hl hR np hp _ H t so2 ⟨Kept.refl H, fun x hx => ?_, by simp, fun x hx => ?_⟩
  · rw [List.mem_singleton] at hx
    exact .inl (by rw [hx])
  · rw [List.mem_singleton] at hx
    subst hx
    exact ⟨.inr rfl, ho⟩
theorem make_at {S : Set'} {H : Hp} {x dx : Addr} {vs : List V} {ds : List D} (so : SOk S H) (hd : DatL S H vs ds) (hx : H x = none) (hdx : H dx = none) (hn : dx ≠ x) :
    SOk S (upd (upd H dx (.own x)) x (.ins C dx [])) ∧ ¬ S x ∧ OAt (wid S (· = x)) (upd (upd H dx (.own x)) x (.ins C dx [])) x (.ins C [] []) ∧ DatL (wid S (· = x)) (upd (upd H dx (.own x)) x (.ins C dx [])) vs ds ∧ Same H (upd (upd H dx (.own x)) x (.ins C dx [])) := by
  have s2 : Same H (upd (upd H dx (.own x)) x (.ins C dx [])) := fun b o e => by
    rw [upd_ne (ne_of_none e hx), upd_ne (ne_of_none e hdx)]
    exact e
  refine ⟨so.kept (Same.kept s2), so.new hx, ⟨dx, [], upd_same, rfl, rfl, List.nodup_nil, by decide⟩, ?_, s2⟩
  exact (DatL.off (wid_off fun b e => by rw [e]; exact hx) _ _ hd).kept (Same.kept s2)
theorem make_new {H : Hp} {p dx : Addr} {ms : Ms} {as : List Addr} (hx : H p = none) (hdx : H dx = none) (hn : dx ≠ p) (ha : ∀ a ∈ as, (upd (upd H dx (.own p)) p (.ins C dx [])) a = none) (hm : ∀ x ∈ ms, x.1 = p ∨ x.1 ∈ as) : ∀ b, adr ms b → H b = none := fun b z => by
  obtain ⟨x, hx2, rfl⟩ := List.mem_map.mp z
  rcases hm x hx2 with e | e
  · rw [e]
    exact hx
  · have := ha _ e
    by_cases c : x.1 = p
    · rw [c]
      exact hx
    · rw [upd_ne c] at this
      by_cases c2 : x.1 = dx
      · rw [c2]
        exact hdx
      · rw [upd_ne c2] at this
        exact this
variable {RI : Ini} {mk : Addr → List Addr → Ms} {cn : Str}
/-- x = C(..) -/
theorem blk_make {pf : Pos} (i : Nat) (h : Kmi (bsOf X) C k n RI) (hr : Room (j + 1) X.A) (hC : X.mg cn = some (.ref C)) (ha : EvA X S (e :: es) G W ds (OB Hs M S m)) (hR : RI ds none mk) (k' : ∀ p as, (∀ b, adr (mk p as) b → ¬ S b) → Blk X (wid S (adr (mk p as))) rest E (G.set i (some (.ref p))) (OB Hs M (wid S (adr (mk p as))) (m ++ mk p as))) (hmk : ∀ p as, ∃ x ∈ mk p as, x.1 = p) (hN : X.N.Nodup) (hi : X.N[i]? = some x := by rfl) (hx : Loc X.env.scope x := by first | exact Or.inl rfl | exact Or.inr rfl) (hj : k ≤ j := by decide) (hln : ds.length = n := by rfl) (hg : Gl X cn := by rfl)
    (hs : swapsWith (.Call (.Name cn pf) (e :: es) [] cpos) (some (.Name x pos')) pos.line X.env = pure false := by rfl) (hf : X.fn x = true ∨ X.env.scope.names.lookup x = some .local := by first | exact .inl rfl | exact .inr rfl)
    (hdb : (cn == ("__debug__" : Str)) = false := by decide) (he : starEach (e :: es) X.env = (false, eval e X.env) :: starEach es X.env := by rfl) (hpl : (backTo cpos (starEach es X.env)).any (·.1) = false := by rfl) :
    Blk X S (.Assign [.Name x pos'] (.Call (.Name cn pf) (e :: es) [] cpos) pos :: rest) E G W := fun σ H ty so w => by
  obtain ⟨f, fd, ps, FF, M1, hb⟩ := h
  have hj2 : k + 1 ≤ j + 1 := Nat.succ_le_succ hj
  refine ⟨_, pss_cons (ps_set hN hi hx (pe_make M1 FF (hr.mono hj2) hg hC hb .nil pass_fa wa_pa hdb he hpl) hs hf) wb_pss, ha σ H ty so w _ fun vs H1 k1 w1 p1 => ?_⟩
  intro p dx hp hdx hne
  rw [List.append_nil]
  obtain ⟨so2, np, oa, hd, s2⟩ := make_at (C := C) (so.kept k1) p1 hp hdx hne
  refine ⟨S, p, vs, ds, none, mk, so2, rfl, np, oa, hd, hln, hR, fun as H' hna k2 ob hmem => ⟨rfl, ?_⟩⟩
  have fr : ∀ b, adr (mk p as) b → H1 b = none := make_new hp hdx hne hna hmem
  have k3 : Kept (adr (mk p as)) H1 H' := (Same.kept s2).trans (k2.weak fun a z => by
    have z' : a = p := z
    subst z'
    obtain ⟨y, hy, e⟩ := hmk a as
    exact List.mem_map.mpr ⟨y, hy, e⟩)
  have t1 : Ty (wid S (adr (mk p as))) H' σ G := ((ty.kept k1).off (wid_off fr)).kept (k3.weak fun a z => .inr z)
  refine k' p as (fun b z => (so.kept k1).new (fr b z)) _ H' (t1.set i (d := .ref p) rfl) (fun b z => ?_) (w1.more fr k3 ob fun y hy => List.mem_map.mpr ⟨y, hy, rfl⟩)
  rcases z with z | z
  · exact fun e => (so.kept k1) b z (k3.2 b e)
  · obtain ⟨y, hy, rfl⟩ := List.mem_map.mp z
    exact (ob.at' y hy).2.has
theorem evx_make {pf : Pos} (h : Kmi (bsOf X) C k n RI) (hr : Room (j + 1) X.A) (hC : X.mg cn = some (.ref C)) (ha : EvA X S (e :: es) G W ds W1) (hs : Stb W1) (hR : RI ds (some c) mk) (hj : k ≤ j := by decide) (hln : ds.length = n := by rfl) (hg : Gl X cn := by rfl)
    (hdb : (cn == ("__debug__" : Str)) = false := by decide) (he : starEach (e :: es) X.env = (false, eval e X.env) :: starEach es X.env := by rfl) (hpl : (backTo cpos (starEach es X.env)).any (·.1) = false := by rfl) :
    EvX X S (.Call (.Name cn pf) (e :: es) [] cpos) G W c W1 := fun σ H ty so w Ex tk q Q => by
  obtain ⟨f, fd, ps, FF, M1, hb⟩ := h
  have hj2 : k + 1 ≤ j + 1 := Nat.succ_le_succ hj
  refine ⟨_, pe_make M1 FF (hr.mono hj2) hg hC hb .nil (pass_x tk) wa_pa hdb he hpl, ha σ H ty so w _ fun vs H1 k1 w1 p1 => ?_⟩
  intro p dx hp hdx hne
  rw [List.append_nil]
  obtain ⟨so2, np, oa, hd, s2⟩ := make_at (C := C) (so.kept k1) p1 hp hdx hne
  refine ⟨S, p, vs, ds, some c, mk, so2, rfl, np, oa, hd, hln, hR, fun H' k2 => ⟨c, rfl, rfl, ?_⟩⟩
  have s3 : Same H1 H' := fun b o e => k2.1 b o (s2 b o e) (ne_of_none e hp)
  exact q H' (k1.trans (Same.kept s3)) (hs _ _ w1 s3)

/-! ### the end of a def that changes objects -/
variable {S0 : Set'} {m0 : Ms} {H0 : Hp} {rs : Res} {Q : VK} {EE : XK}
theorem Ob.back0 {mr : Ms} {H : Hp} (h : Ob S (m' ++ mr) H) (h1 : ∀ b, S0 b → S b) (h2 : ∀ x ∈ m', S0 x.1) : Ob S0 m' H := h.left.off (fun b _ z => h1 b z) h2
theorem blk_retO {nx : L2.St → Hp → Prop} {bk ct : L2.St → Hp → Prop} (hp : PostO S0 m0 H0 rs m' Q EE) (h : Ev X S0 e G W d (OB H0 (adr m0) S0 mm)) (er : rs = .ok d) (em : mm = m' := by rfl) : Blk X S0 [.Return (some e) pos] { nx := nx, rt := Q, bk := bk, ct := ct } G W := blk_ret h fun v H' _ w p => by
  subst er em
  exact hp v H' w.k w.o p
/-- with objects of one's own -/
theorem blk_retP {nx : L2.St → Hp → Prop} {bk ct : L2.St → Hp → Prop} (mr : Ms) (hp : PostO S0 m0 H0 rs m' Q EE) (h : Ev X S e G W d (OB H0 (adr m0) S mm)) (er : rs = .ok d) (h1 : ∀ b, S0 b → S b) (h2 : ∀ x ∈ m', S0 x.1) (em : mm = m' ++ mr := by rfl) : Blk X S [.Return (some e) pos] { nx := nx, rt := Q, bk := bk, ct := ct } G W := blk_ret h fun v H' _ w p => by
  subst er em
  exact hp v H' w.k (w.o.back0 h1 h2) (Dat.off (fun b _ z => h1 b z) _ _ p)
/-- a list of one's own -/
theorem blk_retL {nx : L2.St → Hp → Prop} {bk ct : L2.St → Hp → Prop} (i : Nat) (mr : Ms) (hp : PostO S0 m0 H0 rs m' Q EE) (h : Ev X S e G W (.ref p) (OB H0 (adr m0) S mm)) {ll : List D} (hm : mm[i]? = some (p, .lst ll)) (er : rs = .ok (.lst ll)) (h1 : ∀ b, S0 b → S b) (h2 : ∀ x ∈ m', S0 x.1) (np : ¬ S0 p) (em : mm = m' ++ mr := by rfl) : Blk X S [.Return (some e) pos] { nx := nx, rt := Q, bk := bk, ct := ct } G W := blk_ret h fun v H' _ w q => by
  subst er
  obtain ⟨s, vs, e1, r⟩ := w.get hm
  cases (show v = .ref p from q)
  subst em
  exact hp _ H' w.k (w.o.back0 h1 h2) ⟨p, vs, rfl, np, e1, DatL.off (fun b _ z => h1 b z) _ _ r⟩
/-- the same for a def that changes nothing -/
theorem blk_retL0 {nx : L2.St → Hp → Prop} {bk ct : L2.St → Hp → Prop} (i : Nat) (hp : Post S0 H0 rs Q EE) (h : Ev X S e G W (.ref p) (OB H0 (fun _ => False) S mm)) {ll : List D} (hm : mm[i]? = some (p, .lst ll)) (er : rs = .ok (.lst ll)) (h1 : ∀ b, S0 b → S b) (np : ¬ S0 p) : Blk X S [.Return (some e) pos] { nx := nx, rt := Q, bk := bk, ct := ct } G W := blk_ret h fun v H' _ w q => by
  subst er
  obtain ⟨s, vs, e1, r⟩ := w.get hm
  cases (show v = .ref p from q)
  exact hp _ H' (fun b o e => w.k.1 b o e fun z => z) ⟨p, vs, rfl, np, e1, DatL.off (fun b _ z => h1 b z) _ _ r⟩
theorem ob0 {S : Set'} {H H' : Hp} (h : Same H H') : OB H (fun _ => False) S [] H' := ⟨Same.kept h, (fun x hx => nomatch hx), List.nodup_nil, (fun x hx => nomatch hx)⟩
theorem Blk.ob0 (h : Blk X S rest E G (OB H0 (fun _ => False) S [])) : Blk X S rest E G (Same H0) := h.imp fun H w => Ink.ob0 w
theorem OB.same0 {ms : Ms} {H : Hp} (h : OB H0 (fun _ => False) S ms H) : Same H0 H := fun b o e => h.k.1 b o e fun z => z
end
end Ink
/-! Ink14 -/
/-! The defs: sizes, runs, neat. -/
namespace Ink
open PySem PySem.Spec PyProof.Rows L2
local macro_rules | `(tactic| walk_at "op") => `(tactic| first
  | exact bo_add | exact bo_sub | exact bo_lt | exact bo_le | exact bo_gt | exact bo_ge | exact bo_eqI | exact bo_neI | exact bo_eqS | exact bo_neS | exact bo_in2 | exact bo_eq | exact bo_ne)
local macro_rules | `(tactic| walk_at "bi") => `(tactic| first
  | exact co_len_lst | exact co_len_tup | exact co_len_str (by assumption) | exact co_intB | exact co_list_lst)
local macro_rules | `(tactic| walk_at "ix") => `(tactic| first | exact io_tup rfl | exact io_lst rfl)
/-- the sum of the sizes of the parts of another word -/
def szF (l : List D) (w : Str) : Int := (((List.range l.length).filter fun i => !decide (wD (l.getD i .non) = w)).map fun i => sizeD (thD (l.getD i .non))).sum
theorem okSz_th {d : D} (h1 : partD d = true) (h2 : okPart d = true) : okSz (thD d) = true := by
  obtain ⟨w, y, rfl, p⟩ := partD_inv h1
  rcases partW_inv p with ⟨rfl, n, rfl, _⟩ | ⟨hw, t, rfl⟩
  · rfl
  · exact decide_eq_true (okW_sm h2 hw)
section
variable {B : Bs} {A : Ad}
def R_sizes (ds : List D) (r : Res) : Prop := ∃ l, ds = [.lst l] ∧ l.length ≤ 900 ∧ l.all okPart = true ∧ changeD (.lst l) = true ∧ r = .ok (.tup [.int (szF l putS), .int (szF l cutS')])
theorem ok_sizes (T : Txt B A) : Kn B "sizes" 4 1 R_sizes := by
  obtain ⟨f, fd, F, m⟩ := T.d_sizes
  have k_need_change := ok_need_change T
  have k_size_of := ok_size_of T
  refine kn_of F m (F.binds fun _ _ _ _ _ _ us hl => match us, hl with | [_], _ => rfl) c_sizes rfl (by decide) fun cdv A' outer s H Q E S ds r hr hl hR hp => ?_
  obtain ⟨l, rfl, h9, hok, hch, rfl⟩ := hR
  have st : Stb (Same H) := stb_same
  have nd := c_sizes.nd
  have hall : l.all partD = true := by
    obtain ⟨l', e, h⟩ := changeD_inv hch
    cases e
    exact h
  have hokc : okCh (.lst l) = true := by
    show (decide (l.length ≤ 900) && l.all okPart) = true
    rw [decide_eq_true h9, hok]
    rfl
  refine blk_expr (ev_call k_need_change hr (eva_cons (ev_name 0) eva_nil) st ⟨_, rfl, hokc, by rw [hch]; rfl⟩) ?_
  have item : ∀ i, i < l.length → ∃ w y, l.getD i .non = .tup [.str w, y] ∧ okSz y = true := fun i hi => by
    have m1 := List.mem_of_getElem? (getD_of (l := l) .non hi)
    have p1 := List.all_eq_true.mp hall _ m1
    have s1 := okSz_th p1 (List.all_eq_true.mp hok _ m1)
    obtain ⟨w, y, e, p⟩ := partD_inv p1
    rw [e] at s1
    exact ⟨w, y, e, s1⟩
  have e1 : ∀ w : Str, givenD l.length (fun i => !decide (wD (l.getD i .non) = w)) (fun i => D.int (sizeD (thD (l.getD i .non)))) = (((List.range l.length).filter fun i => !decide (wD (l.getD i .non) = w)).map fun i => sizeD (thD (l.getD i .non))).map D.int := fun w => by
    rw [List.map_map]
    rfl
  refine blk_set 1 (ev_bi (eva_cons (ev_is (ev_lc (own := [("word", 2), ("thing", 3)]) (g := gTup B.K 2 (gCons (gName 2) (gCons (gName 3) gNil))) (fun i => !decide (wD (l.getD i .non) = putS)) (fun i => D.int (sizeD (thD (l.getD i .non)))) (ei_lst (ev_name 0)) st (by omega) (blkOk_by (N := n_sizes) (sc := defScope s_sizes) (by decide +kernel)) (tgt_two _ (by decide))
      (fun i hi => by
        obtain ⟨w, y, e, _⟩ := item i hi
        exact ⟨_, _, e⟩) (fun _ _ _ _ _ => pg_two c_sizes.nd rfl rfl rfl rfl rfl) (fun i H1 S' s H2 C cl fp hi w sub => by
        obtain ⟨wd, y, e, hs⟩ := item i hi
        rw [e]
        exact ⟨ets_one (et_cmp (ev_name 2) ev_str (by walk_at "op") (stb_inL st)), fun _ => ev_call k_size_of hr (eva_cons (ev_name 3) eva_nil) (stb_inL st) ⟨_, rfl, hs, rfl⟩⟩) c_sizes.nd) (congrArg D.lst (e1 putS))) eva_nil) (co_sum rfl) st T.zsum boot_sum) ?_ nd
  exact blk_retR hp (ev_tup (eva_cons (ev_name 1) (eva_cons (ev_bi (eva_cons (ev_is (ev_lc (own := [("word", 2), ("thing", 3)]) (g := gTup B.K 2 (gCons (gName 2) (gCons (gName 3) gNil))) (fun i => !decide (wD (l.getD i .non) = cutS')) (fun i => D.int (sizeD (thD (l.getD i .non)))) (ei_lst (ev_name 0)) st (by omega) (blkOk_by (N := n_sizes) (sc := defScope s_sizes) (by decide +kernel)) (tgt_two _ (by decide))
      (fun i hi => by
        obtain ⟨w, y, e, _⟩ := item i hi
        exact ⟨_, _, e⟩) (fun _ _ _ _ _ => pg_two c_sizes.nd rfl rfl rfl rfl rfl) (fun i H1 S' s H2 C cl fp hi w sub => by
        obtain ⟨wd, y, e, hs⟩ := item i hi
        rw [e]
        exact ⟨ets_one (et_cmp (ev_name 2) ev_str (by walk_at "op") (stb_inL st)), fun _ => ev_call k_size_of hr (eva_cons (ev_name 3) eva_nil) (stb_inL st) ⟨_, rfl, hs, rfl⟩⟩) c_sizes.nd) (congrArg D.lst (e1 cutS'))) eva_nil) (co_sum rfl) st T.zsum boot_sum) eva_nil)) st) rfl fun _ w => w
/-! run_of, with nothing to cut -/
def emp : Str := Str.ofString ""
def putP (t : Str) : D := .tup [.str putS, .str t]
def keepP (n : Int) : D := .tup [.str keepS, .int n]
def runD (p : Str) : List D := if p = emp then [] else [putP p]
def R_run (ds : List D) (r : Res) : Prop := ∃ p, ds = [.str p, .str emp] ∧ r = .ok (.lst (runD p))
theorem ok_run_of (T : Txt B A) : Kn B "run_of" 1 2 R_run := by
  obtain ⟨f, fd, F, m⟩ := T.d_run_of
  refine kn_of F m (F.binds fun _ _ _ _ _ _ us hl => match us, hl with | [_, _], _ => rfl) c_run_of rfl (by decide) fun cdv A' outer s H Q E S ds r hr hl hR hp => ?_
  obtain ⟨p, rfl, rfl⟩ := hR
  have nd := c_run_of.nd
  refine Blk.ob0 (blk_setF 2 (evf_nil stb_OB) (fun a na => ?_) (fun _ w => w) nd)
  by_cases c : p = emp
  · subst c
    refine blk_if (et_is (et_cmp (ev_name 0) ev_str (by walk_at "op") stb_OB) (show (!decide (emp = emp)) = false by rw [decide_eq_true rfl]; rfl)) (fun h => Bool.noConfusion h) (fun _ => blk_on ?_)
    refine blk_if (et_is (et_cmp (ev_name 1) ev_str (by walk_at "op") stb_OB) (show (!decide (emp = emp)) = false by rw [decide_eq_true rfl]; rfl)) (fun h => Bool.noConfusion h) (fun _ => blk_on ?_)
    exact blk_retL0 0 hp (ev_name 2) rfl (by unfold runD; rw [if_pos rfl]) (fun b z => .inl z) na
  · refine blk_if (et_is (et_cmp (ev_name 0) ev_str (by walk_at "op") stb_OB) (show (!decide (p = emp)) = true by rw [decide_eq_false c]; rfl)) (fun _ => ?_) (fun h => Bool.noConfusion h)
    refine blk_expr (ev_appO 0 (ev_name 2) (ev_tup (eva_cons ev_str (eva_cons (ev_name 0) eva_nil)) stb_OB)) (blk_on ?_)
    refine blk_if (et_is (et_cmp (ev_name 1) ev_str (by walk_at "op") stb_OB) (show (!decide (emp = emp)) = false by rw [decide_eq_true rfl]; rfl)) (fun h => Bool.noConfusion h) (fun _ => blk_on ?_)
    exact blk_retL0 0 hp (ev_name 2) rfl (by unfold runD; rw [if_neg c]; rfl) (fun b z => .inl z) na
/-! with_keep -/
def vS : Str := Str.ofString "v"
def zS : Str := Str.ofString "z"
def nrow1 : List D := [putP vS, keepP 1, keepP 5]
def nrow2 : List D := [keepP 1, putP zS, keepP 5]
def R_wk (ds : List D) (r : Res) : Prop := (ds = [.lst [putP vS, keepP 1], .int 5] ∧ r = .ok (.lst [putP vS, keepP 6])) ∨ (ds = [.lst [], .int 1] ∧ r = .ok (.lst [keepP 1])) ∨
  (ds = [.lst [putP vS], .int 1] ∧ r = .ok (.lst [putP vS, keepP 1])) ∨ (ds = [.lst [keepP 1, putP zS], .int 5] ∧ r = .ok (.lst nrow2))
theorem ok_with_keep (T : Txt B A) : Kn B "with_keep" 1 2 R_wk := by
  obtain ⟨f, fd, F, m⟩ := T.d_with_keep
  refine kn_of F m (F.binds fun _ _ _ _ _ _ us hl => match us, hl with | [_, _], _ => rfl) c_with_keep rfl (by decide) fun cdv A' outer s H Q E S ds r hr hl hR hp => ?_
  have st : Stb (Same H) := stb_same
  have hu := hr.un
  have hu2 : (cx B n_with_keep "with_keep" s_with_keep f cdv A' outer s H E).A.units + 64 < cLine := by omega
  rcases hR with ⟨rfl, rfl⟩ | ⟨rfl, rfl⟩ | ⟨rfl, rfl⟩ | ⟨rfl, rfl⟩
  · refine blk_if (et_is (et_w (ew_andT (et_is (et_cmp (ev_name 0) (ev_lst eva_nil st) (bo_neD hu2 (by decide +kernel) (by decide +kernel) (by decide +kernel) (by decide +kernel)) st) (by decide +kernel)) (ew_one_and (et_cmp (ev_ix (ev_ix (ev_name 0) (ev_neg ev_int) (io_lst (atI_last rfl))) ev_int (by walk_at "ix")) ev_str (by walk_at "op") st)))) (decide_eq_true rfl)) (fun _ => ?_) (fun h => Bool.noConfusion h)
    exact blk_retR hp (ev_bin (ev_sl (ev_name 0) eo_none (eo_some (ev_neg ev_int)) so_lst st) (ev_lst (eva_cons (ev_tup (eva_cons ev_str (eva_cons (ev_bin (ev_ix (ev_ix (ev_name 0) (ev_neg ev_int) (io_lst (atI_last rfl))) ev_int (by walk_at "ix")) (ev_name 1) (by walk_at "op") st) eva_nil)) st) eva_nil) st) (bo_addL (by decide +kernel)) st) rfl fun _ w => w
  · refine blk_if (et_is (et_w (ew_andF (et_is (et_cmp (ev_name 0) (ev_lst eva_nil st) (bo_neD hu2 (by decide +kernel) (by decide +kernel) (by decide +kernel) (by decide +kernel)) st) (by decide +kernel)))) rfl) (fun h => Bool.noConfusion h) (fun _ => blk_on ?_)
    exact blk_retR hp (ev_bin (ev_name 0) (ev_lst (eva_cons (ev_tup (eva_cons ev_str (eva_cons (ev_name 1) eva_nil)) st) eva_nil) st) (bo_addL (by decide +kernel)) st) rfl fun _ w => w
  · refine blk_if (et_is (et_w (ew_andT (et_is (et_cmp (ev_name 0) (ev_lst eva_nil st) (bo_neD hu2 (by decide +kernel) (by decide +kernel) (by decide +kernel) (by decide +kernel)) st) (by decide +kernel)) (ew_one_and (et_cmp (ev_ix (ev_ix (ev_name 0) (ev_neg ev_int) (io_lst (atI_last rfl))) ev_int (by walk_at "ix")) ev_str (by walk_at "op") st)))) (decide_eq_false (by decide +kernel))) (fun h => Bool.noConfusion h) (fun _ => blk_on ?_)
    exact blk_retR hp (ev_bin (ev_name 0) (ev_lst (eva_cons (ev_tup (eva_cons ev_str (eva_cons (ev_name 1) eva_nil)) st) eva_nil) st) (bo_addL (by decide +kernel)) st) rfl fun _ w => w
  · refine blk_if (et_is (et_w (ew_andT (et_is (et_cmp (ev_name 0) (ev_lst eva_nil st) (bo_neD hu2 (by decide +kernel) (by decide +kernel) (by decide +kernel) (by decide +kernel)) st) (by decide +kernel)) (ew_one_and (et_cmp (ev_ix (ev_ix (ev_name 0) (ev_neg ev_int) (io_lst (atI_last rfl))) ev_int (by walk_at "ix")) ev_str (by walk_at "op") st)))) (decide_eq_false (by decide +kernel))) (fun h => Bool.noConfusion h) (fun _ => blk_on ?_)
    exact blk_retR hp (ev_bin (ev_name 0) (ev_lst (eva_cons (ev_tup (eva_cons ev_str (eva_cons (ev_name 1) eva_nil)) st) eva_nil) st) (bo_addL (by decide +kernel)) st) rfl fun _ w => w
/-! neat, of the two rows that come -/
def R_neat (ds : List D) (r : Res) : Prop := (ds = [.lst nrow1] ∧ r = .ok (.lst [putP vS, keepP 6])) ∨ (ds = [.lst nrow2] ∧ r = .ok (.lst nrow2))
def ngs (found : List D) (put : Str) (p : List D) : Gm := [some (.lst p), some (.lst found), some (.str put), some (.str emp), none, none]
theorem emp_app (x : Str) : emp ++ x = x := by
  show (⟨(Str.ofString "").cps ++ x.cps⟩ : Str) = x
  rw [show (Str.ofString "").cps = #[] from rfl, Array.empty_append]
theorem ok_neat (T : Txt B A) : Kn B "neat" 2 1 R_neat := by
  obtain ⟨f, fd, F, m⟩ := T.d_neat
  have k_run_of := ok_run_of T
  have k_with_keep := ok_with_keep T
  refine kn_of F m (F.binds fun _ _ _ _ _ _ us hl => match us, hl with | [_], _ => rfl) c_neat rfl (by decide) fun cdv A' outer s H Q E S ds r hr hl hR hp => ?_
  have nd := c_neat.nd
  have st : Stb (Same H) := stb_same
  have st2 : ∀ Hs, Stb (withK S (Same H) Hs) := fun Hs => stb_withK stb_same
  have fin : ∀ {E' : Ends} {Hs : Hp} {found : List D} {put : Str} {p : List D} {a b : D}, (∀ σ H', Ty S H' σ (ngs found put p) → SOk S H' → withK S (Same H) Hs H' → E'.nx σ H') → Blk (cx B n_neat "neat" s_neat f cdv A' outer s H E) S [] E' [some (.lst p), some (.lst found), some (.str put), some (.str emp), some a, some b] (withK S (Same H) Hs) := fun {E' Hs found put p a b} h => blk_nil fun σ H' t so w => h σ H' ((t.forget 4).forget 5) so w
  rcases hR with ⟨rfl, rfl⟩ | ⟨rfl, rfl⟩
  · refine blk_set 1 (ev_lst eva_nil st) ?_ nd
    refine blk_set 2 ev_str ?_ nd
    refine blk_set 3 ev_str ?_ nd
    refine blk_for2 4 5 (ps := [(.str putS, .str vS), (.str keepS, .int 1), (.str keepS, .int 5)]) (fun i => match i with
      | 0 => ngs [] emp nrow1
      | 1 => ngs [] vS nrow1
      | 2 => ngs [putP vS, keepP 1] emp nrow1
      | _ => ngs [putP vS, keepP 6] emp nrow1) (fun _ => Same H) (ev_name 0) (fun σ H' t so w => ⟨t, w⟩) (fun i a b Hs hi => ?_) ?_ nd po_cx
    · match i, hi with
      | 0, hi =>
        cases hi
        refine blk_if1 (et_is (et_cmp (ev_name 4) ev_str (by walk_at "op") (st2 Hs)) (decide_eq_true rfl)) (fun _ => ?_) (fun h => Bool.noConfusion h)
        refine blk_set 2 (ev_is (ev_bin (ev_name 2) (ev_name 5) (bo_addS (by decide)) (st2 Hs)) (congrArg D.str (emp_app vS))) ?_ nd
        exact fin fun σ H' t so w => ⟨t, so, w⟩
      | 1, hi =>
        cases hi
        refine blk_if1 (et_is (et_cmp (ev_name 4) ev_str (by walk_at "op") (st2 Hs)) (decide_eq_false (by decide +kernel))) (fun h => Bool.noConfusion h) (fun _ => ?_)
        refine blk_if1 (et_is (et_cmp (ev_name 4) ev_str (by walk_at "op") (st2 Hs)) (decide_eq_false (by decide +kernel))) (fun h => Bool.noConfusion h) (fun _ => ?_)
        refine blk_if1 (et_is (et_cmp (ev_name 5) ev_int (by walk_at "op") (st2 Hs)) (decide_eq_true (by decide))) (fun _ => ?_) (fun h => Bool.noConfusion h)
        refine blk_set 1 (ev_call k_with_keep hr (eva_cons (ev_bin (ev_name 1) (ev_call k_run_of hr (eva_cons (ev_name 2) (eva_cons (ev_name 3) eva_nil)) (st2 Hs) ⟨_, rfl, rfl⟩) (bo_addL (by decide +kernel)) (st2 Hs)) (eva_cons (ev_name 5) eva_nil)) (st2 Hs) (.inr (.inr (.inl ⟨by rfl, rfl⟩)))) ?_ nd
        refine blk_set 2 ev_str ?_ nd
        refine blk_set 3 ev_str ?_ nd
        exact fin fun σ H' t so w => ⟨t, so, w⟩
      | 2, hi =>
        cases hi
        refine blk_if1 (et_is (et_cmp (ev_name 4) ev_str (by walk_at "op") (st2 Hs)) (decide_eq_false (by decide +kernel))) (fun h => Bool.noConfusion h) (fun _ => ?_)
        refine blk_if1 (et_is (et_cmp (ev_name 4) ev_str (by walk_at "op") (st2 Hs)) (decide_eq_false (by decide +kernel))) (fun h => Bool.noConfusion h) (fun _ => ?_)
        refine blk_if1 (et_is (et_cmp (ev_name 5) ev_int (by walk_at "op") (st2 Hs)) (decide_eq_true (by decide))) (fun _ => ?_) (fun h => Bool.noConfusion h)
        refine blk_set 1 (ev_call k_with_keep hr (eva_cons (ev_bin (ev_name 1) (ev_call k_run_of hr (eva_cons (ev_name 2) (eva_cons (ev_name 3) eva_nil)) (st2 Hs) ⟨_, rfl, rfl⟩) (bo_addL (by decide +kernel)) (st2 Hs)) (eva_cons (ev_name 5) eva_nil)) (st2 Hs) (.inl ⟨rfl, rfl⟩)) ?_ nd
        refine blk_set 2 ev_str ?_ nd
        refine blk_set 3 ev_str ?_ nd
        exact fin fun σ H' t so w => ⟨t, so, w⟩
      | n + 3, hi => simp at hi
    · exact blk_retR hp (ev_bin (ev_name 1) (ev_call k_run_of hr (eva_cons (ev_name 2) (eva_cons (ev_name 3) eva_nil)) st ⟨_, rfl, rfl⟩) (bo_addL (by decide +kernel)) st) rfl fun _ w => w
  · refine blk_set 1 (ev_lst eva_nil st) ?_ nd
    refine blk_set 2 ev_str ?_ nd
    refine blk_set 3 ev_str ?_ nd
    refine blk_for2 4 5 (ps := [(.str keepS, .int 1), (.str putS, .str zS), (.str keepS, .int 5)]) (fun i => match i with
      | 0 => ngs [] emp nrow2
      | 1 => ngs [keepP 1] emp nrow2
      | 2 => ngs [keepP 1] zS nrow2
      | _ => ngs nrow2 emp nrow2) (fun _ => Same H) (ev_name 0) (fun σ H' t so w => ⟨t, w⟩) (fun i a b Hs hi => ?_) ?_ nd po_cx
    · match i, hi with
      | 0, hi =>
        cases hi
        refine blk_if1 (et_is (et_cmp (ev_name 4) ev_str (by walk_at "op") (st2 Hs)) (decide_eq_false (by decide +kernel))) (fun h => Bool.noConfusion h) (fun _ => ?_)
        refine blk_if1 (et_is (et_cmp (ev_name 4) ev_str (by walk_at "op") (st2 Hs)) (decide_eq_false (by decide +kernel))) (fun h => Bool.noConfusion h) (fun _ => ?_)
        refine blk_if1 (et_is (et_cmp (ev_name 5) ev_int (by walk_at "op") (st2 Hs)) (decide_eq_true (by decide))) (fun _ => ?_) (fun h => Bool.noConfusion h)
        refine blk_set 1 (ev_call k_with_keep hr (eva_cons (ev_bin (ev_name 1) (ev_call k_run_of hr (eva_cons (ev_name 2) (eva_cons (ev_name 3) eva_nil)) (st2 Hs) ⟨_, rfl, rfl⟩) (bo_addL (by decide +kernel)) (st2 Hs)) (eva_cons (ev_name 5) eva_nil)) (st2 Hs) (.inr (.inl ⟨rfl, rfl⟩))) ?_ nd
        refine blk_set 2 ev_str ?_ nd
        refine blk_set 3 ev_str ?_ nd
        exact fin fun σ H' t so w => ⟨t, so, w⟩
      | 1, hi =>
        cases hi
        refine blk_if1 (et_is (et_cmp (ev_name 4) ev_str (by walk_at "op") (st2 Hs)) (decide_eq_true rfl)) (fun _ => ?_) (fun h => Bool.noConfusion h)
        refine blk_set 2 (ev_is (ev_bin (ev_name 2) (ev_name 5) (bo_addS (by decide)) (st2 Hs)) (congrArg D.str (emp_app zS))) ?_ nd
        exact fin fun σ H' t so w => ⟨t, so, w⟩
      | 2, hi =>
        cases hi
        refine blk_if1 (et_is (et_cmp (ev_name 4) ev_str (by walk_at "op") (st2 Hs)) (decide_eq_false (by decide +kernel))) (fun h => Bool.noConfusion h) (fun _ => ?_)
        refine blk_if1 (et_is (et_cmp (ev_name 4) ev_str (by walk_at "op") (st2 Hs)) (decide_eq_false (by decide +kernel))) (fun h => Bool.noConfusion h) (fun _ => ?_)
        refine blk_if1 (et_is (et_cmp (ev_name 5) ev_int (by walk_at "op") (st2 Hs)) (decide_eq_true (by decide))) (fun _ => ?_) (fun h => Bool.noConfusion h)
        refine blk_set 1 (ev_call k_with_keep hr (eva_cons (ev_bin (ev_name 1) (ev_call k_run_of hr (eva_cons (ev_name 2) (eva_cons (ev_name 3) eva_nil)) (st2 Hs) ⟨_, rfl, rfl⟩) (bo_addL (by decide +kernel)) (st2 Hs)) (eva_cons (ev_name 5) eva_nil)) (st2 Hs) (.inr (.inr (.inr ⟨rfl, rfl⟩)))) ?_ nd
        refine blk_set 2 ev_str ?_ nd
        refine blk_set 3 ev_str ?_ nd
        exact fin fun σ H' t so w => ⟨t, so, w⟩
      | n + 3, hi => simp at hi
    · exact blk_retR hp (ev_bin (ev_name 1) (ev_call k_run_of hr (eva_cons (ev_name 2) (eva_cons (ev_name 3) eva_nil)) st ⟨_, rfl, rfl⟩) (bo_addL (by decide +kernel)) st) rfl fun _ w => w
end
end Ink
/-! Ink15 -/
/-! The defs: readers. -/
namespace Ink
open PySem PySem.Spec PyProof.Rows L2
local macro_rules | `(tactic| walk_at "op") => `(tactic| first
  | exact bo_add | exact bo_sub | exact bo_lt | exact bo_le | exact bo_gt | exact bo_ge | exact bo_eqI | exact bo_neI | exact bo_eqS | exact bo_neS | exact bo_in2 | exact bo_eq | exact bo_ne)
local macro_rules | `(tactic| walk_at "bi") => `(tactic| first
  | exact co_len_lst | exact co_len_tup | exact co_len_str (by assumption) | exact co_intB | exact co_list_lst)
local macro_rules | `(tactic| walk_at "ix") => `(tactic| first | exact io_tup rfl | exact io_lst rfl)
/-! ### rows of parts as PyData -/
def strC (x : Str) : Bool := x.cps.all (· < 0x110000)
def partC : D → Bool
  | .tup [.str w, .str t] => strC w && strC t
  | .tup [.str w, .int _] => strC w
  | _ => false
theorem partC_inv : ∀ {d : D}, partC d = true → ∃ w y, d = .tup [.str w, y] ∧ isPy y = true ∧ (py y).canLay0 = true ∧ (py y).depth = 0 ∧ strC w = true
  | .tup [.str w, .str t], h => by
    have h2 : (strC w && strC t) = true := h
    rw [Bool.and_eq_true] at h2
    exact ⟨w, .str t, rfl, rfl, h2.2, by simp [py, PyData.depth], h2.1⟩
  | .tup [.str w, .int i], h => ⟨w, .int i, rfl, rfl, rfl, by simp [py, PyData.depth], h⟩
theorem partC_all : ∀ {l : List D}, l.all partC = true → isPyL l = true ∧ PyData.canLayAll0 (pyL l) = true ∧ PyData.depthAll (pyL l) ≤ 1
  | [], _ => ⟨rfl, rfl, by simp [pyL, PyData.depthAll]⟩
  | d :: l, h => by
    rw [List.all_cons, Bool.and_eq_true] at h
    obtain ⟨w, y, rfl, h1, h2, h3, h4⟩ := partC_inv h.1
    obtain ⟨i1, i2, i3⟩ := partC_all h.2
    refine ⟨?_, ?_, ?_⟩
    · show (isPyL [.str w, y] && isPyL l) = true
      rw [i1]
      show ((true && (isPy y && true)) && true) = true
      rw [h1]
      rfl
    · show ((strC w && ((py y).canLay0 && true)) && PyData.canLayAll0 (pyL l)) = true
      rw [h4, h2, i2]
      rfl
    · simp only [pyL, py, PyData.depthAll, PyData.depth, h3]
      omega
theorem shp_row {l : List D} (h : l.all partC = true) : SeqAt.shaped (py (.lst l)) = true := by
  obtain ⟨i1, i2, i3⟩ := partC_all h
  unfold SeqAt.shaped
  rw [Bool.and_eq_true]
  refine ⟨i2, decide_eq_true ?_⟩
  simp only [py, PyData.depth]
  omega
theorem shp_nil : SeqAt.shaped (py (.lst [])) = true := shp_row rfl
theorem eqv_nil : ∀ l : List D, PyData.eqv (py (.lst l)) (py (.lst [])) = l.isEmpty
  | [] => by simp [py, pyL, PyData.eqv, PyData.eqvAll]
  | d :: l => by simp [py, pyL, PyData.eqv, PyData.eqvAll]
/-! list(x), new -/
section
variable {X : Cx} {S M : Set'} {Hs : Hp} {m : Ms} {G : Gm} {W W1 : As} {e : Expr} {l : List D} {pos pf : Pos}
theorem evf_list (h : ∀ H0, W H0 → Ev X S e G (fun H => W H ∧ Same H0 H) (.lst l) (fun H => W1 H ∧ Same H0 H)) (hs : Stb W1) (hm : X.mg "list" = none) (hg : Gl X "list" := by rfl) (h1 : starEach [e] X.env = (false, eval e X.env) :: starEach [] X.env := by rfl) (hpl : (backTo pos (starEach [] X.env)).any (·.1) = false := by rfl) : EvF X S (.Call (.Name "list" pf) [e] [] pos) G W (.lst l) W1 := fun σ H ty so w Q q => by
  refine ⟨_, pe_callTy call_list_of hg hm boot_list (pa_cons we_pe pa_nil h1) (by decide) (by decide) h1 hpl, h H w σ H ty so ⟨w, Same.refl H⟩ _ fun v H1 k1 w1 p1 => ?_⟩
  obtain ⟨a, vs, rfl, na, ha, r⟩ := p1
  refine ⟨a, vs, rfl, .inl (SqL.of ha), fun p hp => ?_⟩
  have e2 : Same H1 (upd H1 p (.lst vs)) := Same.new hp
  have hp0 : H p = none := k1.2 p hp
  refine q p _ hp0 (k1.trans (Same.kept e2)) (w1.2.trans e2) (hs _ _ w1.1 e2) ⟨vs, upd_same, ?_⟩
  exact (DatL.off (wid_off fun b e => by rw [e]; exact hp) _ _ r).kept (Same.kept e2)
end
/-! ### a reader -/
abbrev ksR : List Str := ["rest"]
def rdM (A : Ad) (p a : Addr) (l : List D) : Ms := [(p, .ins A.rdr ksR [.ref a]), (a, .lst l)]
section
variable {B : Bs} {A : Ad}
def R_rdi (A : Ad) (ds : List D) (oc : Option Addr) (mk : Addr → List Addr → Ms) : Prop := ∃ l, ds = [.lst l] ∧ oc = none ∧ mk = fun p as => rdM A p (as.headD 0) l
theorem ok_rd_init (T : Txt B A) : Kmi B A.rdr 1 1 (R_rdi A) := by
  obtain ⟨f, fd, F, m⟩ := T.m_Reader_init
  refine kmi_of F ⟨T.rdr.mki, m.at_, m.fn, T.rdr.kp⟩ (F.binds fun _ _ _ _ _ _ us hl => match us, hl with | [_, _], _ => rfl) c_Reader_init rfl (by decide) fun cdv A' outer s H Q E hr S p ds oc mk hl hR np hp => ?_
  obtain ⟨l, rfl, rfl, rfl⟩ := hR
  refine blk_fNF 0 (evf_list (fun H0 w => (ev_name 1).imp (fun _ h => h) (fun _ h => h)) stb_OB T.zlist) (fun _ w => w) (fun S m => ev_name 0) T.rdr.cl (T.rdr.nf _ (by decide)) (fun a na => ?_)
  refine blk_nil fun σ H' t so w => ?_
  have hne : ¬ a = p := fun z => na (.inr z)
  refine hp [a] H' (fun b hb => ?_) w.k ?_ fun x hx => ?_
  · rw [List.mem_singleton] at hb
    rw [hb]
    rcases w.f (a, .lst l) (by simp) with z | z
    · exact absurd z hne
    · exact z
  · refine w.o.off (fun b hb z => ?_) fun x hx => ?_
    · rcases z with z | z
      · exact .inl (.inl z)
      · obtain ⟨y, hy, rfl⟩ := List.mem_map.mp z
        exact (w.o.at' y hy).1
    · exact .inr (List.mem_map.mpr ⟨x, hx, rfl⟩)
  · have hx' : x ∈ rdM A p a l := hx
    unfold rdM at hx'
    rcases List.mem_cons.mp hx' with rfl | hx'
    · exact .inl rfl
    · rw [List.mem_singleton] at hx'
      rw [hx']
      exact .inr (by simp)
def wordD : List D → Str
  | [] => emp
  | d :: _ => wD d
def R_rdw (A : Ad) (m : Ms) (ds : List D) (r : Res) (m' : Ms) : Prop := ∃ p a l, m = rdM A p a l ∧ ds = [.ref p] ∧ l.all partC = true ∧ m' = m ∧ r = .ok (.str (wordD l))
theorem ok_rd_word (T : Txt B A) : Kmo B A.rdr "word" 1 1 (R_rdw A) := by
  obtain ⟨f, fd, F, m⟩ := T.m_Reader_word
  refine kmo_of F m (F.binds fun _ _ _ _ _ _ us hl => match us, hl with | [_], _ => rfl) c_Reader_word rfl (by decide) fun cdv A' outer s H Q E hr S m ds r m' hl hR hS hp => ?_
  obtain ⟨p, a, l, rfl, rfl, hc, rfl, rfl⟩ := hR
  have hu := hr.un
  have hu2 : (cx B n_Reader_word "Reader.word" s_Reader_word f cdv A' outer s H E).A.units + 64 < cLine := by omega
  refine blk_if (et_is (et_cmpO 1 (ev_fO 0 0 (ev_name 0) T.rdr.cl (T.rdr.nf _ (by decide))) (ev_lst eva_nil stb_OB) (bo_eqD hu2 (partC_all hc).1 rfl (shp_row hc) shp_nil)) (eqv_nil l)) (fun h => ?_) (fun h => blk_on ?_)
  · cases l with
    | nil => exact blk_retO hp ev_str rfl
    | cons d l => exact Bool.noConfusion h
  · cases l with
    | nil => exact Bool.noConfusion h
    | cons d l =>
      rw [List.all_cons, Bool.and_eq_true] at hc
      obtain ⟨w, y, rfl, _⟩ := partC_inv hc.1
      exact blk_retO hp (ev_ix (ev_ixO 1 (ev_fO 0 0 (ev_name 0) T.rdr.cl (T.rdr.nf _ (by decide))) ev_int (atI_of (d := D.tup [.str w, y]) (n := 0) rfl rfl)) ev_int (io_tup rfl)) rfl
def R_rdn (A : Ad) (m : Ms) (ds : List D) (r : Res) (m' : Ms) : Prop := ∃ p a w y l, m = rdM A p a (.tup [.str w, y] :: l) ∧ ds = [.ref p] ∧ okSz y = true ∧ m' = m ∧ r = .ok (.int (sizeD y))
theorem ok_rd_next (T : Txt B A) : Kmo B A.rdr "next_size" 2 1 (R_rdn A) := by
  obtain ⟨f, fd, F, m⟩ := T.m_Reader_next_size
  have k_size_of := ok_size_of T
  refine kmo_of F m (F.binds fun _ _ _ _ _ _ us hl => match us, hl with | [_], _ => rfl) c_Reader_next_size rfl (by decide) fun cdv A' outer s H Q E hr S m ds r m' hl hR hS hp => ?_
  obtain ⟨p, a, w, y, l, rfl, rfl, hy, rfl, rfl⟩ := hR
  exact blk_retO hp (ev_call k_size_of hr (eva_cons (ev_ix (ev_ixO 1 (ev_fO 0 0 (ev_name 0) T.rdr.cl (T.rdr.nf _ (by decide))) ev_int (atI_of (d := D.tup [.str w, y]) (n := 0) rfl rfl)) ev_int (io_tup rfl)) eva_nil) stb_OB ⟨_, rfl, hy, rfl⟩) rfl
def R_rdc (A : Ad) (m : Ms) (ds : List D) (r : Res) (m' : Ms) : Prop := ∃ p a w y l n, m = rdM A p a (.tup [.str w, y] :: l) ∧ ds = [.ref p, .int n] ∧ okSz y = true ∧ sizeD y ≤ n ∧ m' = rdM A p a l ∧ r = .ok (.tup [.str w, y])
theorem ok_rd_cut (T : Txt B A) : Kmo B A.rdr "cut_off" 2 2 (R_rdc A) := by
  obtain ⟨f, fd, F, m⟩ := T.m_Reader_cut_off
  have k_size_of := ok_size_of T
  refine kmo_of F m (F.binds fun _ _ _ _ _ _ us hl => match us, hl with | [_, _], _ => rfl) c_Reader_cut_off rfl (by decide) fun cdv A' outer s H Q E hr S m ds r m' hl hR hS hp => ?_
  obtain ⟨p, a, w, y, l, n, rfl, rfl, hy, hn, rfl, rfl⟩ := hR
  refine blk_set2 2 3 (ev_pop0 1 (ev_fO 0 0 (ev_name 0) T.rdr.cl (T.rdr.nf _ (by decide)))) ?_ c_Reader_cut_off.nd
  refine blk_if (et_is (et_cmp (ev_call k_size_of hr (eva_cons (ev_name 3) eva_nil) stb_OB ⟨_, rfl, hy, rfl⟩) (ev_name 1) (by walk_at "op") stb_OB) (decide_eq_true hn)) (fun _ => ?_) (fun h => Bool.noConfusion h)
  exact blk_retO hp (ev_tup (eva_cons (ev_name 2) (eva_cons (ev_name 3) eva_nil)) stb_OB) rfl
end
end Ink
/-! Ink16 -/
/-! The defs: passing. -/
namespace Ink
open PySem PySem.Spec PyProof.Rows L2
local macro_rules | `(tactic| walk_at "op") => `(tactic| first
  | exact bo_add | exact bo_sub | exact bo_lt | exact bo_le | exact bo_gt | exact bo_ge | exact bo_eqI | exact bo_neI | exact bo_eqS | exact bo_neS | exact bo_in2 | exact bo_eq | exact bo_ne)
local macro_rules | `(tactic| walk_at "bi") => `(tactic| first
  | exact co_len_lst | exact co_len_tup | exact co_len_str (by assumption) | exact co_intB | exact co_list_lst)
local macro_rules | `(tactic| walk_at "ix") => `(tactic| first | exact io_tup rfl | exact io_lst rfl)
theorem OB.perm {Hs : Hp} {M S : Set'} {m m' : Ms} {H : Hp} (h : OB Hs M S m H) (p : m.Perm m') : OB Hs M S m' H := ⟨h.k, fun x hx => h.f x (p.mem_iff.mpr hx), (p.map (·.1)).nodup_iff.mp h.o.nd, fun x hx => h.o.at' x (p.mem_iff.mpr hx)⟩
theorem Ty.thaw {S : Set'} {H : Hp} {σ : L2.St} {G : Gm} {i : Nat} {p : Addr} {d : D} (t : Ty S H σ G) (hi : G[i]? = some (some (.ref p))) (hd : Dat S H (.ref p) d) : Ty S H σ (G.set i (some d)) := by
  refine ⟨by rw [List.length_set]; exact t.1, fun j e hj => ?_⟩
  by_cases c : i = j
  · subst c
    obtain ⟨v, hv, pv⟩ := t.2 i _ hi
    cases (show v = .ref p from pv)
    rw [List.getElem?_set_self (List.getElem?_eq_some_iff.mp hi).1] at hj
    cases (Option.some.inj (Option.some.inj hj))
    exact ⟨_, hv, hd⟩
  · rw [List.getElem?_set_ne c] at hj
    exact t.2 j e hj
theorem blk_shift {X : Cx} {S S' : Set'} {sts : List Stmt} {E : Ends} {G G' : Gm} {W W' : As} (h : ∀ σ H, Ty S H σ G → SOk S H → W H → Ty S' H σ G' ∧ SOk S' H ∧ W' H) (k : Blk X S' sts E G' W') : Blk X S sts E G W := fun σ H t so w => by
  obtain ⟨a, b, c⟩ := h σ H t so w
  exact k σ H a b c
/-- a list of one's own as data -/
theorem own_dat {S S0 : Set'} {H : Hp} {p : Addr} {l : List D} (h : OAt S H p (.lst l)) (h1 : ∀ b, S0 b → S b) (np : ¬ S0 p) : Dat S0 H (.ref p) (.lst l) := by
  obtain ⟨vs, e, r⟩ := h
  exact ⟨p, vs, rfl, np, e, DatL.off (fun b _ z => h1 b z) _ _ r⟩
section
variable {B : Bs} {A : Ad}
def cutP (t : Str) : D := .tup [.str cutS', .str t]
def hS : Str := Str.ofString "#"
def R_putp (A : Ad) (m : Ms) (ds : List D) (r : Res) (m' : Ms) : Prop := ∃ p a mi ot t l x y, ds = [.ref p, .ref mi, .ref ot] ∧ t.length ≤ 1000 ∧ x.length ≤ 100 ∧ y.length ≤ 100 ∧ r = .ok .non ∧
  ((m = rdM A p a (putP t :: l) ++ [(mi, .lst x), (ot, .lst y)] ∧ m' = rdM A p a l ++ [(mi, .lst (x ++ [putP t])), (ot, .lst (y ++ [keepP (t.length : Int)]))]) ∨
   (m = [(ot, .lst y), (mi, .lst x)] ++ rdM A p a (putP t :: l) ∧ m' = [(ot, .lst (y ++ [keepP (t.length : Int)])), (mi, .lst (x ++ [putP t]))] ++ rdM A p a l))
theorem ok_put_past (T : Txt B A) : Ko B "put_past" 3 3 (R_putp A) := by
  obtain ⟨f, fd, F, m⟩ := T.d_put_past
  have k_next := ok_rd_next T
  have k_cut := ok_rd_cut T
  refine ko_of F m (F.binds fun _ _ _ _ _ _ us hl => match us, hl with | [_, _, _], _ => rfl) c_put_past rfl (by decide) fun cdv A' outer s H Q E hr S m ds r m' hl hR hS hp => ?_
  obtain ⟨p, a, mi, ot, t, l, x, y, rfl, ht, hx, hy, rfl, hm⟩ := hR
  have hs : okSz (.str t) = true := decide_eq_true ht
  rcases hm with ⟨rfl, rfl⟩ | ⟨rfl, rfl⟩
  · refine blk_set2 3 4 (ev_methO [] [(mi, .lst x), (ot, .lst y)] (rdM A p a (putP t :: l)) (rdM A p a l) 0 k_cut T.rdr.cl hr (ev_name 0) (eva_cons (ev_meth0O [] [(mi, .lst x), (ot, .lst y)] (rdM A p a (putP t :: l)) (rdM A p a (putP t :: l)) 0 k_next T.rdr.cl hr (ev_name 0) ⟨p, a, putS, .str t, l, rfl, rfl, hs, rfl, rfl⟩) eva_nil) ⟨p, a, putS, .str t, l, _, rfl, rfl, hs, Int.le_refl _, rfl, rfl⟩) ?_ c_put_past.nd
    refine blk_expr (ev_appO 2 (ev_name 1) (ev_tup (eva_cons (ev_name 3) (eva_cons (ev_name 4) eva_nil)) stb_OB) rfl (by omega)) ?_
    refine blk_expr (ev_appO 3 (ev_name 2) (ev_tup (eva_cons ev_str (eva_cons (ev_bi (eva_cons (ev_name 4) eva_nil) (co_len_str ht) stb_OB T.zlen boot_len) eva_nil)) stb_OB) rfl (by omega)) ?_
    exact blk_nil fun σ H' t so w => hp .non H' w.k w.o rfl
  · refine blk_set2 3 4 (ev_methO [(ot, .lst y), (mi, .lst x)] [] (rdM A p a (putP t :: l)) (rdM A p a l) 2 k_cut T.rdr.cl hr (ev_name 0) (eva_cons (ev_meth0O [(ot, .lst y), (mi, .lst x)] [] (rdM A p a (putP t :: l)) (rdM A p a (putP t :: l)) 2 k_next T.rdr.cl hr (ev_name 0) ⟨p, a, putS, .str t, l, rfl, rfl, hs, rfl, rfl⟩) eva_nil) ⟨p, a, putS, .str t, l, _, rfl, rfl, hs, Int.le_refl _, rfl, rfl⟩) ?_ c_put_past.nd
    refine blk_expr (ev_appO 1 (ev_name 1) (ev_tup (eva_cons (ev_name 3) (eva_cons (ev_name 4) eva_nil)) stb_OB) rfl (by omega)) ?_
    refine blk_expr (ev_appO 0 (ev_name 2) (ev_tup (eva_cons ev_str (eva_cons (ev_bi (eva_cons (ev_name 4) eva_nil) (co_len_str ht) stb_OB T.zlen boot_len) eva_nil)) stb_OB) rfl (by omega)) ?_
    exact blk_nil fun σ H' t so w => hp .non H' w.k w.o rfl
/-- both readers, the rows that come about -/
def pmM (A : Ad) (f fr mi ot s sr : Addr) (l1 : List D) (x y : List D) (l2 : List D) : Ms := rdM A f fr l1 ++ ([(mi, .lst x), (ot, .lst y)] ++ rdM A s sr l2)
def R_signs (A : Ad) (m : Ms) (ds : List D) (r : Res) (m' : Ms) : Prop := ∃ f fr mi ot s sr, ds = [.ref f, .ref s, .ref mi, .ref ot] ∧
  ((∃ c n, c.length = 1 ∧ c ≠ hS ∧ m = pmM A f fr mi ot s sr [cutP c, keepP n] [] [] [cutP hS, keepP n] ∧ r = .exc A.fit ∧ m' = pmM A f fr mi ot s sr [keepP n] [] [] [keepP n]) ∨
   (∃ x y, x.length ≤ 100 ∧ y.length ≤ 100 ∧ m = pmM A f fr mi ot s sr [keepP 5] x y [keepP 5] ∧ r = .ok .non ∧ m' = pmM A f fr mi ot s sr [] (x ++ [keepP 5]) (y ++ [keepP 5]) []))
theorem ok_signs_past (T : Txt B A) : Ko B "signs_past" 3 4 (R_signs A) := by
  obtain ⟨fn, fd, F, m⟩ := T.d_signs_past
  have k_next := ok_rd_next T
  have k_cut := ok_rd_cut T
  refine ko_of F m (F.binds fun _ _ _ _ _ _ us hl => match us, hl with | [_, _, _, _], _ => rfl) c_signs_past rfl (by decide) fun cdv A' outer s0 H Q E hr S m ds r m' hl hR hSS hp => ?_
  have nd := c_signs_past.nd
  obtain ⟨f, fr, mi, ot, s, sr, rfl, ⟨c, n, hc1, hc, rfl, rfl, rfl⟩ | ⟨x, y, hx, hy, rfl, rfl, rfl⟩⟩ := hR
  · have hs1 : okSz (.str c) = true := decide_eq_true (by omega)
    have e1 : sizeD (.str c) = 1 := by
      show (c.length : Int) = 1
      omega
    refine blk_set 4 (ev_is (ev_bi (eva_cons (ev_meth0O [] ([(mi, .lst []), (ot, .lst [])] ++ rdM A s sr [cutP hS, keepP n]) (rdM A f fr [cutP c, keepP n]) (rdM A f fr [cutP c, keepP n]) 0 k_next T.rdr.cl hr (ev_name 0) ⟨f, fr, cutS', .str c, [keepP n], rfl, rfl, hs1, rfl, rfl⟩)
      (eva_cons (ev_meth0O (rdM A f fr [cutP c, keepP n] ++ [(mi, .lst []), (ot, .lst [])]) [] (rdM A s sr [cutP hS, keepP n]) (rdM A s sr [cutP hS, keepP n]) 4 k_next T.rdr.cl hr (ev_name 1) ⟨s, sr, cutS', .str hS, [keepP n], rfl, rfl, rfl, rfl, rfl⟩) eva_nil)) (co_min rfl) stb_OB T.zmin boot_min) (show D.int (if (1 : Int) < sizeD (.str c) then 1 else sizeD (.str c)) = .int 1 by rw [e1]; rfl)) ?_ nd
    refine blk_set 5 (ev_methO [] ([(mi, .lst []), (ot, .lst [])] ++ rdM A s sr [cutP hS, keepP n]) (rdM A f fr [cutP c, keepP n]) (rdM A f fr [keepP n]) 0 k_cut T.rdr.cl hr (ev_name 0) (eva_cons (ev_name 4) eva_nil) ⟨f, fr, cutS', .str c, [keepP n], 1, rfl, rfl, hs1, by rw [e1]; exact Int.le_refl _, rfl, rfl⟩) ?_ nd
    refine blk_set 6 (ev_methO (rdM A f fr [keepP n] ++ [(mi, .lst []), (ot, .lst [])]) [] (rdM A s sr [cutP hS, keepP n]) (rdM A s sr [keepP n]) 4 k_cut T.rdr.cl hr (ev_name 1) (eva_cons (ev_name 4) eva_nil) ⟨s, sr, cutS', .str hS, [keepP n], 1, rfl, rfl, rfl, by decide, rfl, rfl⟩) ?_ nd
    refine blk_if (et_is (et_w (ew_andT (et_is (et_cmp (ev_ix (ev_name 5) ev_int (by walk_at "ix")) ev_str (by walk_at "op") stb_OB) (decide_eq_true rfl)) (ew_andT (et_is (et_cmp (ev_ix (ev_name 6) ev_int (by walk_at "ix")) ev_str (by walk_at "op") stb_OB) (decide_eq_true rfl)) (ew_one_and (et_cmp (ev_ix (ev_name 5) ev_int (by walk_at "ix")) (ev_ix (ev_name 6) ev_int (by walk_at "ix")) (by walk_at "op") stb_OB))))) (show (!decide (c = hS)) = true by rw [decide_eq_false hc]; rfl)) (fun _ => ?_) (fun h => Bool.noConfusion h)
    exact blk_raise tk_cx T.fit fun H' so w => hp H' w.k w.o
  · refine blk_set 4 (ev_bi (eva_cons (ev_meth0O [] ([(mi, .lst x), (ot, .lst y)] ++ rdM A s sr [keepP 5]) (rdM A f fr [keepP 5]) (rdM A f fr [keepP 5]) 0 k_next T.rdr.cl hr (ev_name 0) ⟨f, fr, keepS, .int 5, [], rfl, rfl, rfl, rfl, rfl⟩)
      (eva_cons (ev_meth0O (rdM A f fr [keepP 5] ++ [(mi, .lst x), (ot, .lst y)]) [] (rdM A s sr [keepP 5]) (rdM A s sr [keepP 5]) 4 k_next T.rdr.cl hr (ev_name 1) ⟨s, sr, keepS, .int 5, [], rfl, rfl, rfl, rfl, rfl⟩) eva_nil)) (co_min rfl) stb_OB T.zmin boot_min) ?_ nd
    refine blk_set 5 (ev_methO [] ([(mi, .lst x), (ot, .lst y)] ++ rdM A s sr [keepP 5]) (rdM A f fr [keepP 5]) (rdM A f fr []) 0 k_cut T.rdr.cl hr (ev_name 0) (eva_cons (ev_name 4) eva_nil) ⟨f, fr, keepS, .int 5, [], 5, rfl, rfl, rfl, by decide, rfl, rfl⟩) ?_ nd
    refine blk_set 6 (ev_methO (rdM A f fr [] ++ [(mi, .lst x), (ot, .lst y)]) [] (rdM A s sr [keepP 5]) (rdM A s sr []) 4 k_cut T.rdr.cl hr (ev_name 1) (eva_cons (ev_name 4) eva_nil) ⟨s, sr, keepS, .int 5, [], 5, rfl, rfl, rfl, by decide, rfl, rfl⟩) ?_ nd
    refine blk_if (et_w (ew_andF (et_is (et_cmp (ev_ix (ev_name 5) ev_int (by walk_at "ix")) ev_str (by walk_at "op") stb_OB) (decide_eq_false (by decide +kernel))))) (fun h => Bool.noConfusion h) (fun _ => blk_on ?_)
    refine blk_if (et_is (et_cmp (ev_ix (ev_name 6) ev_int (by walk_at "ix")) ev_str (by walk_at "op") stb_OB) (decide_eq_true rfl)) (fun _ => ?_) (fun h => Bool.noConfusion h)
    refine blk_expr (ev_appO 2 (ev_name 2) (ev_name 5) rfl (by omega)) (blk_on ?_)
    refine blk_if1 (et_is (et_cmp (ev_ix (ev_name 5) ev_int (by walk_at "ix")) ev_str (by walk_at "op") stb_OB) (decide_eq_true rfl)) (fun _ => ?_) (fun h => Bool.noConfusion h)
    refine blk_expr (ev_appO 3 (ev_name 3) (ev_name 6) rfl (by omega)) ?_
    exact blk_nil fun σ H' t so w => hp .non H' w.k w.o rfl
end
end Ink
/-! Ink17 -/
/-! The defs: passed, for the two pairs of changes that come. -/
namespace Ink
open PySem PySem.Spec PyProof.Rows L2
local macro_rules | `(tactic| walk_at "op") => `(tactic| first
  | exact bo_add | exact bo_sub | exact bo_lt | exact bo_le | exact bo_gt | exact bo_ge | exact bo_eqI | exact bo_neI | exact bo_eqS | exact bo_neS | exact bo_in2 | exact bo_eq | exact bo_ne)
local macro_rules | `(tactic| walk_at "ix") => `(tactic| first | exact io_tup rfl | exact io_lst rfl)
theorem okCh_row {l : List D} (h1 : l.length ≤ 900) (h2 : l.all okPart = true) : okCh (.lst l) = true := by
  show (decide (l.length ≤ 900) && l.all okPart) = true
  rw [decide_eq_true h1, h2]
  rfl
theorem inSG_small {c : Nat} (h : inSG c = true) : c < 0x110000 := by
  have h2 : c ∈ sgl := by
    have z := of_decide_eq_true h
    have e : SG.cps.toList = sgl := by
      show sgl.toArray.toList = sgl
      simp
    rw [e] at z
    exact z
  have h3 : ∀ c ∈ sgl, c < 0x110000 := by decide +kernel
  exact h3 c h2
theorem strC_of {x : Str} (h : x.cps.toList.all inSG = true) : strC x = true := by
  show x.cps.all _ = true
  rw [← Array.all_toList]
  rw [List.all_eq_true] at h ⊢
  exact fun c hc => decide_eq_true (inSG_small (h c hc))
/-- a text that a cut may take -/
structure CutT (c : Str) : Prop where
  len : c.length = 1
  sg : c.cps.toList.all inSG = true
theorem cutT_txt {c : Str} (h : CutT c) : txtB (.str c) = true := by
  show (!decide (c = Str.ofString "") && c.cps.toList.all inSG) = true
  rw [h.sg, decide_eq_false]
  · rfl
  · rintro rfl
    exact absurd h.len (by decide)
theorem cutT_part {c : Str} (h : CutT c) : partD (cutP c) = true := by
  show (if cutS' = keepS then posB (.str c) else if putS = cutS' ∨ cutS' = cutS' then txtB (.str c) else false) = true
  rw [if_neg (by decide +kernel), if_pos (.inr rfl)]
  exact cutT_txt h
theorem keep_part {n : Int} (h : 0 < n) : partD (keepP n) = true := by
  show (if keepS = keepS then posB (.int n) else if putS = keepS ∨ cutS' = keepS then txtB (.int n) else false) = true
  rw [if_pos rfl]
  exact decide_eq_true h
theorem okPart_str {w t : Str} (h : t.length ≤ 1000) : okPart (.tup [.str w, .str t]) = true := by
  show (true && (w == keepS || !(decide (putS = w) || decide (cutS' = w)) || decide (t.length ≤ 1000))) = true
  rw [decide_eq_true h, Bool.or_true]
  rfl
theorem okPart_keep {n : Int} : okPart (keepP n) = true := rfl
theorem cut_row {c : Str} {n : Int} (h : CutT c) (hn : 0 < n) : changeD (.lst [cutP c, keepP n]) = true ∧ [cutP c, keepP n].all okPart = true := by
  constructor
  · show ([cutP c, keepP n].all partD && adj [cutP c, keepP n]) = true
    rw [List.all_cons, List.all_cons, cutT_part h, keep_part hn]
    rfl
  · rw [List.all_cons, List.all_cons, show okPart (cutP c) = true from okPart_str (by rw [h.len]; decide), okPart_keep]
    rfl
theorem sz_cut (c : Str) (n : Int) : szF [cutP c, keepP n] putS = (c.length : Int) + n := by
  show (c.length : Int) + (n + 0) = _
  omega
theorem cutT_h : CutT hS := ⟨rfl, by decide +kernel⟩
section
variable {B : Bs} {A : Ad}
def row1 : List D := [putP vS, keepP 5]
def row2 : List D := [putP zS, keepP 5]
def R_passed (A : Ad) (ds : List D) (r : Res) : Prop := (∃ c n, CutT c ∧ c ≠ hS ∧ 0 < n ∧ ds = [.lst [cutP c, keepP n], .lst [cutP hS, keepP n]] ∧ r = .exc A.fit) ∨
  (ds = [.lst row1, .lst row2] ∧ r = .ok (.tup [.lst [putP vS, keepP 6], .lst nrow2]))
theorem pas_perm {a b c d e g : Addr × OD} : [a, b, c, d, e, g].Perm [a, b, e, g, c, d] := List.Perm.append_left [a, b] (List.perm_append_comm (l₁ := [c, d]) (l₂ := [e, g]))
theorem row_head {c : Str} {n : Int} (h : CutT c) : [cutP c, keepP n].all partC = true := by
  show ((strC cutS' && strC c) && (strC keepS && true)) = true
  rw [strC_of h.sg]
  decide +kernel
theorem ok_passed (T : Txt B A) : Kn B "passed" 5 2 (R_passed A) := by
  obtain ⟨fn, fd, F, m⟩ := T.d_passed
  have k_need_change := ok_need_change T
  have k_sizes := ok_sizes T
  have k_init := ok_rd_init T
  have k_word := ok_rd_word T
  have k_putp := ok_put_past T
  have k_signs := ok_signs_past T
  have k_neat := ok_neat T
  refine kn_of F m (F.binds fun _ _ _ _ _ _ us hl => match us, hl with | [_, _], _ => rfl) c_passed rfl (by decide) fun cdv A' outer s0 H Q E S ds r hr hl hR hp => ?_
  have nd := c_passed.nd
  have st : Stb (Same H) := stb_same
  have hmk : ∀ (l : List D) (p : Addr) (as : List Addr), ∃ x ∈ rdM A p (as.headD 0) l, x.1 = p := fun l p as => ⟨_, List.mem_cons_self, rfl⟩
  rcases hR with ⟨c, n, hc, hne, hn, rfl, rfl⟩ | ⟨rfl, rfl⟩
  · obtain ⟨c1, o1⟩ := cut_row hc hn
    obtain ⟨c2, o2⟩ := cut_row cutT_h hn
    have n1 : [cutP c, keepP n].length ≤ 900 := Nat.le_of_ble_eq_true rfl
    have n2 : [cutP hS, keepP n].length ≤ 900 := Nat.le_of_ble_eq_true rfl
    have d1 := okCh_row n1 o1
    have d2 := okCh_row n2 o2
    refine blk_expr (ev_call k_need_change hr (eva_cons (ev_name 0) eva_nil) st ⟨_, rfl, d1, by rw [c1]; rfl⟩) ?_
    refine blk_expr (ev_call k_need_change hr (eva_cons (ev_name 1) eva_nil) st ⟨_, rfl, d2, by rw [c2]; rfl⟩) ?_
    refine blk_if (et_is (et_cmp (ev_ix (ev_call k_sizes hr (eva_cons (ev_name 0) eva_nil) st ⟨_, rfl, n1, o1, c1, rfl⟩) ev_int (io_tup rfl)) (ev_ix (ev_call k_sizes hr (eva_cons (ev_name 1) eva_nil) st ⟨_, rfl, n2, o2, c2, rfl⟩) ev_int (io_tup rfl)) bo_neI st) (show (!decide (szF [cutP c, keepP n] putS = szF [cutP hS, keepP n] putS)) = false by
      rw [sz_cut, sz_cut, hc.len, cutT_h.len, decide_eq_true rfl]
      rfl)) (fun h => Bool.noConfusion h) (fun _ => blk_on ?_)
    refine Blk.ob0 ?_
    refine blk_make 2 (j := 3) k_init hr T.rdr.g (eva_cons (ev_name 0) eva_nil) ⟨_, rfl, rfl, rfl⟩ (fun f fas hf => ?_) (hmk _) nd
    refine blk_make 3 (j := 3) k_init hr T.rdr.g (eva_cons (ev_name 1) eva_nil) ⟨_, rfl, rfl, rfl⟩ (fun s sas hs => ?_) (hmk _) nd
    refine blk_setF 4 (evf_nil stb_OB) (fun mi hmi => ?_) (fun _ w => w) nd
    refine blk_setF 5 (evf_nil stb_OB) (fun ot hot => ?_) (fun _ w => w) nd
    refine Blk.imp (W1 := OB H (fun _ => False) _ (pmM A f (fas.headD 0) mi ot s (sas.headD 0) [cutP c, keepP n] [] [] [cutP hS, keepP n])) ?_ fun H1 w => OB.perm (m := [(f, .ins A.rdr ksR [.ref (fas.headD 0)]), (fas.headD 0, .lst [cutP c, keepP n]), (s, .ins A.rdr ksR [.ref (sas.headD 0)]), (sas.headD 0, .lst [cutP hS, keepP n]), (mi, .lst []), (ot, .lst [])]) w pas_perm
    refine blk_while (α := Bool) (fun _ => [some (.lst [cutP c, keepP n]), some (.lst [cutP hS, keepP n]), some (.ref f), some (.ref s), some (.ref mi), some (.ref ot)]) (fun b => match b with
      | true => OB H (fun _ => False) _ (pmM A f (fas.headD 0) mi ot s (sas.headD 0) [cutP c, keepP n] [] [] [cutP hS, keepP n])
      | false => fun _ => False) (fun b => if b then 1 else 0) true (fun σ H1 t so w => ⟨t, w⟩) (fun b => ?_) po_cx
    match b with
    | false => exact ⟨false, fun _ => False, fun _ _ _ _ w => w.elim, (fun h => Bool.noConfusion h), fun _ => fun _ _ _ _ w => w.elim⟩
    | true =>
      refine ⟨true, _, et_is (et_w (ew_orT (et_is (et_cmp (ev_meth0O [] ([(mi, .lst []), (ot, .lst [])] ++ rdM A s (sas.headD 0) [cutP hS, keepP n]) (rdM A f (fas.headD 0) [cutP c, keepP n]) (rdM A f (fas.headD 0) [cutP c, keepP n]) 0 k_word T.rdr.cl hr (ev_name 2) ⟨f, _, _, rfl, rfl, row_head hc, rfl, rfl⟩) ev_str bo_neS stb_OB) (show (!decide (cutS' = emp)) = true by rw [decide_eq_false (by decide +kernel)]; rfl)))) rfl, fun _ => ⟨false, by decide, ?_⟩, fun h => Bool.noConfusion h⟩
      refine blk_if1 (et_is (et_cmp (ev_meth0O [] ([(mi, .lst []), (ot, .lst [])] ++ rdM A s (sas.headD 0) [cutP hS, keepP n]) (rdM A f (fas.headD 0) [cutP c, keepP n]) (rdM A f (fas.headD 0) [cutP c, keepP n]) 0 k_word T.rdr.cl hr (ev_name 2) ⟨f, _, _, rfl, rfl, row_head hc, rfl, rfl⟩) ev_str bo_eqS stb_OB) (decide_eq_false (show ¬ cutS' = putS by decide +kernel))) (fun h => Bool.noConfusion h) (fun _ => ?_)
      refine blk_if1 (et_is (et_cmp (ev_meth0O (rdM A f (fas.headD 0) [cutP c, keepP n] ++ [(mi, .lst []), (ot, .lst [])]) [] (rdM A s (sas.headD 0) [cutP hS, keepP n]) (rdM A s (sas.headD 0) [cutP hS, keepP n]) 4 k_word T.rdr.cl hr (ev_name 3) ⟨s, _, _, rfl, rfl, row_head cutT_h, rfl, rfl⟩) ev_str bo_eqS stb_OB) (decide_eq_false (show ¬ cutS' = putS by decide +kernel))) (fun h => Bool.noConfusion h) (fun _ => ?_)
      refine blk_exprX tk_cx (evx_callO [] [] (pmM A f (fas.headD 0) mi ot s (sas.headD 0) [cutP c, keepP n] [] [] [cutP hS, keepP n]) (pmM A f (fas.headD 0) mi ot s (sas.headD 0) [keepP n] [] [] [keepP n]) k_signs hr (eva_cons (ev_name 2) (eva_cons (ev_name 3) (eva_cons (ev_name 4) (eva_cons (ev_name 5) eva_nil)))) ⟨f, _, mi, ot, s, _, rfl, .inl ⟨c, n, hc.len, hne, rfl, rfl, rfl⟩⟩) fun H1 so w => hp H1 w.same0
  · have c1 : changeD (.lst row1) = true := by decide +kernel
    have o1 : row1.all okPart = true := by decide +kernel
    have c2 : changeD (.lst row2) = true := by decide +kernel
    have o2 : row2.all okPart = true := by decide +kernel
    have n1 : row1.length ≤ 900 := Nat.le_of_ble_eq_true rfl
    have n2 : row2.length ≤ 900 := Nat.le_of_ble_eq_true rfl
    have d1 := okCh_row n1 o1
    have d2 := okCh_row n2 o2
    refine blk_expr (ev_call k_need_change hr (eva_cons (ev_name 0) eva_nil) st ⟨_, rfl, d1, by rw [c1]; rfl⟩) ?_
    refine blk_expr (ev_call k_need_change hr (eva_cons (ev_name 1) eva_nil) st ⟨_, rfl, d2, by rw [c2]; rfl⟩) ?_
    refine blk_if (et_is (et_cmp (ev_ix (ev_call k_sizes hr (eva_cons (ev_name 0) eva_nil) st ⟨_, rfl, n1, o1, c1, rfl⟩) ev_int (io_tup rfl)) (ev_ix (ev_call k_sizes hr (eva_cons (ev_name 1) eva_nil) st ⟨_, rfl, n2, o2, c2, rfl⟩) ev_int (io_tup rfl)) bo_neI st) (show (!decide (szF row1 putS = szF row2 putS)) = false by decide +kernel)) (fun h => Bool.noConfusion h) (fun _ => blk_on ?_)
    refine Blk.ob0 ?_
    refine blk_make 2 (j := 3) k_init hr T.rdr.g (eva_cons (ev_name 0) eva_nil) ⟨_, rfl, rfl, rfl⟩ (fun f fas hf => ?_) (hmk _) nd
    refine blk_make 3 (j := 3) k_init hr T.rdr.g (eva_cons (ev_name 1) eva_nil) ⟨_, rfl, rfl, rfl⟩ (fun s sas hs => ?_) (hmk _) nd
    refine blk_setF 4 (evf_nil stb_OB) (fun mi hmi => ?_) (fun _ w => w) nd
    refine blk_setF 5 (evf_nil stb_OB) (fun ot hot => ?_) (fun _ w => w) nd
    refine Blk.imp (W1 := OB H (fun _ => False) _ (pmM A f (fas.headD 0) mi ot s (sas.headD 0) row1 [] [] row2)) ?_ fun H1 w => OB.perm (m := [(f, .ins A.rdr ksR [.ref (fas.headD 0)]), (fas.headD 0, .lst row1), (s, .ins A.rdr ksR [.ref (sas.headD 0)]), (sas.headD 0, .lst row2), (mi, .lst []), (ot, .lst [])]) w pas_perm
    have hS1 : ∀ b, S b → (wid (wid (wid (wid S (adr (rdM A f (fas.headD 0) row1))) (adr (rdM A s (sas.headD 0) row2))) (· = mi)) (· = ot)) b := fun b z => .inl (.inl (.inl (.inl z)))
    have nmi : ¬ S mi := fun z => hmi (.inl (.inl z))
    have not' : ¬ S ot := fun z => hot (.inl (.inl (.inl z)))
    refine blk_while (α := Fin 4) (fun _ => [some (.lst row1), some (.lst row2), some (.ref f), some (.ref s), some (.ref mi), some (.ref ot)]) (fun i => OB H (fun _ => False) _ (match i with
      | 0 => pmM A f (fas.headD 0) mi ot s (sas.headD 0) row1 [] [] row2
      | 1 => pmM A f (fas.headD 0) mi ot s (sas.headD 0) [keepP 5] [putP vS] [keepP 1] row2
      | 2 => pmM A f (fas.headD 0) mi ot s (sas.headD 0) [keepP 5] [putP vS, keepP 1] [keepP 1, putP zS] [keepP 5]
      | 3 => pmM A f (fas.headD 0) mi ot s (sas.headD 0) [] nrow1 nrow2 [])) (fun i => 3 - i.val) 0 (fun σ H1 t so w => ⟨t, w⟩) (fun i => ?_) po_cx
    match i with
    | 0 =>
      refine ⟨true, _, et_is (et_w (ew_orT (et_is (et_cmp (ev_meth0O [] ([(mi, .lst []), (ot, .lst [])] ++ rdM A s (sas.headD 0) row2) (rdM A f (fas.headD 0) row1) (rdM A f (fas.headD 0) row1) 0 k_word T.rdr.cl hr (ev_name 2) ⟨f, _, _, rfl, rfl, by decide +kernel, rfl, rfl⟩) ev_str bo_neS stb_OB) (by decide +kernel)))) rfl, fun _ => ⟨1, by decide, ?_⟩, fun h => Bool.noConfusion h⟩
      refine blk_if1 (et_is (et_cmp (ev_meth0O [] ([(mi, .lst []), (ot, .lst [])] ++ rdM A s (sas.headD 0) row2) (rdM A f (fas.headD 0) row1) (rdM A f (fas.headD 0) row1) 0 k_word T.rdr.cl hr (ev_name 2) ⟨f, _, _, rfl, rfl, by decide +kernel, rfl, rfl⟩) ev_str bo_eqS stb_OB) (decide_eq_true rfl)) (fun _ => ?_) (fun h => Bool.noConfusion h)
      refine blk_expr (ev_callO [] (rdM A s (sas.headD 0) row2) (rdM A f (fas.headD 0) row1 ++ [(mi, .lst []), (ot, .lst [])]) (rdM A f (fas.headD 0) [keepP 5] ++ [(mi, .lst [putP vS]), (ot, .lst [keepP 1])]) k_putp hr (eva_cons (ev_name 2) (eva_cons (ev_name 4) (eva_cons (ev_name 5) eva_nil))) ⟨f, _, mi, ot, vS, [keepP 5], [], [], rfl, by decide, by decide, by decide, rfl, .inl ⟨rfl, rfl⟩⟩) ?_
      exact blk_nil fun σ H1 t so w => ⟨t, so, w⟩
    | 1 =>
      refine ⟨true, _, et_is (et_w (ew_orT (et_is (et_cmp (ev_meth0O [] ([(mi, .lst [putP vS]), (ot, .lst [keepP 1])] ++ rdM A s (sas.headD 0) row2) (rdM A f (fas.headD 0) [keepP 5]) (rdM A f (fas.headD 0) [keepP 5]) 0 k_word T.rdr.cl hr (ev_name 2) ⟨f, _, _, rfl, rfl, by decide +kernel, rfl, rfl⟩) ev_str bo_neS stb_OB) (by decide +kernel)))) rfl, fun _ => ⟨2, by decide, ?_⟩, fun h => Bool.noConfusion h⟩
      refine blk_if1 (et_is (et_cmp (ev_meth0O [] ([(mi, .lst [putP vS]), (ot, .lst [keepP 1])] ++ rdM A s (sas.headD 0) row2) (rdM A f (fas.headD 0) [keepP 5]) (rdM A f (fas.headD 0) [keepP 5]) 0 k_word T.rdr.cl hr (ev_name 2) ⟨f, _, _, rfl, rfl, by decide +kernel, rfl, rfl⟩) ev_str bo_eqS stb_OB) (decide_eq_false (by decide +kernel))) (fun h => Bool.noConfusion h) (fun _ => ?_)
      refine blk_if1 (et_is (et_cmp (ev_meth0O (rdM A f (fas.headD 0) [keepP 5] ++ [(mi, .lst [putP vS]), (ot, .lst [keepP 1])]) [] (rdM A s (sas.headD 0) row2) (rdM A s (sas.headD 0) row2) 4 k_word T.rdr.cl hr (ev_name 3) ⟨s, _, _, rfl, rfl, by decide +kernel, rfl, rfl⟩) ev_str bo_eqS stb_OB) (decide_eq_true rfl)) (fun _ => ?_) (fun h => Bool.noConfusion h)
      refine blk_expr (ev_callO (rdM A f (fas.headD 0) [keepP 5]) [] ([(mi, .lst [putP vS]), (ot, .lst [keepP 1])] ++ rdM A s (sas.headD 0) row2) ([(mi, .lst [putP vS, keepP 1]), (ot, .lst [keepP 1, putP zS])] ++ rdM A s (sas.headD 0) [keepP 5]) k_putp hr (eva_cons (ev_name 3) (eva_cons (ev_name 5) (eva_cons (ev_name 4) eva_nil))) ⟨s, _, ot, mi, zS, [keepP 5], [keepP 1], [putP vS], rfl, by decide, by decide, by decide, rfl, .inr ⟨rfl, rfl⟩⟩) ?_
      exact blk_nil fun σ H1 t so w => ⟨t, so, w⟩
    | 2 =>
      refine ⟨true, _, et_is (et_w (ew_orT (et_is (et_cmp (ev_meth0O [] ([(mi, .lst [putP vS, keepP 1]), (ot, .lst [keepP 1, putP zS])] ++ rdM A s (sas.headD 0) [keepP 5]) (rdM A f (fas.headD 0) [keepP 5]) (rdM A f (fas.headD 0) [keepP 5]) 0 k_word T.rdr.cl hr (ev_name 2) ⟨f, _, _, rfl, rfl, by decide +kernel, rfl, rfl⟩) ev_str bo_neS stb_OB) (by decide +kernel)))) rfl, fun _ => ⟨3, by decide, ?_⟩, fun h => Bool.noConfusion h⟩
      refine blk_if1 (et_is (et_cmp (ev_meth0O [] ([(mi, .lst [putP vS, keepP 1]), (ot, .lst [keepP 1, putP zS])] ++ rdM A s (sas.headD 0) [keepP 5]) (rdM A f (fas.headD 0) [keepP 5]) (rdM A f (fas.headD 0) [keepP 5]) 0 k_word T.rdr.cl hr (ev_name 2) ⟨f, _, _, rfl, rfl, by decide +kernel, rfl, rfl⟩) ev_str bo_eqS stb_OB) (decide_eq_false (by decide +kernel))) (fun h => Bool.noConfusion h) (fun _ => ?_)
      refine blk_if1 (et_is (et_cmp (ev_meth0O (rdM A f (fas.headD 0) [keepP 5] ++ [(mi, .lst [putP vS, keepP 1]), (ot, .lst [keepP 1, putP zS])]) [] (rdM A s (sas.headD 0) [keepP 5]) (rdM A s (sas.headD 0) [keepP 5]) 4 k_word T.rdr.cl hr (ev_name 3) ⟨s, _, _, rfl, rfl, by decide +kernel, rfl, rfl⟩) ev_str bo_eqS stb_OB) (decide_eq_false (by decide +kernel))) (fun h => Bool.noConfusion h) (fun _ => ?_)
      refine blk_expr (ev_callO [] [] (pmM A f (fas.headD 0) mi ot s (sas.headD 0) [keepP 5] [putP vS, keepP 1] [keepP 1, putP zS] [keepP 5]) (pmM A f (fas.headD 0) mi ot s (sas.headD 0) [] nrow1 nrow2 []) k_signs hr (eva_cons (ev_name 2) (eva_cons (ev_name 3) (eva_cons (ev_name 4) (eva_cons (ev_name 5) eva_nil)))) ⟨f, _, mi, ot, s, _, rfl, .inr ⟨_, _, by decide, by decide, rfl, rfl, rfl⟩⟩) ?_
      exact blk_nil fun σ H1 t so w => ⟨t, so, w⟩
    | 3 =>
      refine ⟨false, _, et_is (et_w (ew_orF (et_is (et_cmp (ev_meth0O [] ([(mi, .lst nrow1), (ot, .lst nrow2)] ++ rdM A s (sas.headD 0) []) (rdM A f (fas.headD 0) []) (rdM A f (fas.headD 0) []) 0 k_word T.rdr.cl hr (ev_name 2) ⟨f, _, _, rfl, rfl, rfl, rfl, rfl⟩) ev_str bo_neS stb_OB) (by decide +kernel)) (ew_one_or (et_is (et_cmp (ev_meth0O (rdM A f (fas.headD 0) [] ++ [(mi, .lst nrow1), (ot, .lst nrow2)]) [] (rdM A s (sas.headD 0) []) (rdM A s (sas.headD 0) []) 4 k_word T.rdr.cl hr (ev_name 3) ⟨s, _, _, rfl, rfl, rfl, rfl, rfl⟩) ev_str bo_neS stb_OB) (by decide +kernel : _ = false))))) rfl, fun h => Bool.noConfusion h, fun _ => ?_⟩
      refine blk_shift (S' := S) (G' := [some (.lst row1), some (.lst row2), some (.ref f), some (.ref s), some (.lst nrow1), some (.lst nrow2)]) (W' := Same H) (fun σ H1 t so w => ⟨?_, fun b z => so b (hS1 b z), w.same0⟩) ?_
      · have w' : OB H (fun _ => False) _ (pmM A f (fas.headD 0) mi ot s (sas.headD 0) [] nrow1 nrow2 []) H1 := w
        have t0 := t.off (S' := S) fun b _ z => hS1 b z
        have t1 := t0.thaw (i := 4) rfl (own_dat (w'.get (i := 2) rfl).2 hS1 nmi)
        exact t1.thaw (i := 5) rfl (own_dat (w'.get (i := 3) rfl).2 hS1 not')
      · exact blk_retR hp (ev_tup (eva_cons (ev_call k_neat hr (eva_cons (ev_name 4) eva_nil) st (.inl ⟨rfl, rfl⟩)) (eva_cons (ev_call k_neat hr (eva_cons (ev_name 5) eva_nil) st (.inr ⟨rfl, rfl⟩)) eva_nil)) st) rfl fun _ w => w
end
end Ink
/-! Ink18 -/
/-! The D-layer: promises that only read objects; the server's words that only read. -/
namespace Ink
open PySem PySem.Spec PyProof.Rows L2
local macro_rules | `(tactic| walk_at "op") => `(tactic| first
  | exact bo_add | exact bo_sub | exact bo_lt | exact bo_le | exact bo_gt | exact bo_ge | exact bo_eqI | exact bo_neI | exact bo_eqS | exact bo_neS | exact bo_in2 | exact bo_eq | exact bo_ne)
local macro_rules | `(tactic| walk_at "ix") => `(tactic| first | exact io_tup rfl | exact io_lst rfl)
abbrev Trq := Ms → List D → Res → Prop
def spQ (n : Nat) (R : Trq) : Sp := fun vs H Q E => ∃ S m ds r, SOk S H ∧ DatL S H vs ds ∧ ds.length = n ∧ Ob S m H ∧ R m ds r ∧ Post S H r Q E
abbrev Kmq (B : Bs) (C : Addr) (x : Str) (k n : Nat) (R : Trq) : Prop := KM B C x k (spQ n R)
abbrev Kq (B : Bs) (x : Str) (k n : Nat) (R : Trq) : Prop := Kd B x k (spQ n R)
theorem spQ_len {n : Nat} {R : Trq} {vs : List V} {H : Hp} {Q : VK} {E : XK} (h : spQ n R vs H Q E) : vs.length = n := by
  obtain ⟨S, m, ds, r, _, hd, hl, _⟩ := h
  rw [hd.len, hl]
abbrev QW (H : Hp) (S : Set') (m : Ms) : As := fun H' => Same H H' ∧ Ob S m H'
theorem stb_QW {H : Hp} {S : Set'} {m : Ms} : Stb (QW H S m) := fun _ _ a e => ⟨a.1.trans e, a.2.same e⟩
abbrev BodyQ (B : Bs) (x : Str) (st : Stmt) (f : Addr) (N : List Str) (k n : Nat) (R : Trq) : Prop := ∀ (cdv : Value) (A : Around) (outer : List Env) (s : Shared) (H : Hp) (Q : VK) (E : XK), Room k (cx B N x st f cdv A outer s H E).A → ∀ (S : Set') (m : Ms) (ds : List D) (r : Res), ds.length = n → R m ds r → Post S H r Q E →
      Blk (cx B N x st f cdv A outer s H E) S (defBody st) { nx := fun _ H' => Q .non H', rt := Q } (ds.map some ++ List.replicate (N.length - n) none) (QW H S m)
theorem bodyQ {B : Bs} {q : Str} {st : Stmt} {N : List Str} {n : Nat} {R : Trq} {f : Addr} {cdv : Value} {A : Around} {outer : List Env} {s : Shared} {H : Hp} {vs : List V} {Q : VK} {E : XK} (h : spQ n R vs H Q E) (hN : n ≤ N.length)
    (body : ∀ (S : Set') (m : Ms) (ds : List D) (r : Res), ds.length = n → R m ds r → Post S H r Q E →
      Blk (cx B N q st f cdv A outer s H E) S (defBody st) { nx := fun _ H' => Q .non H', rt := Q } (ds.map some ++ List.replicate (N.length - n) none) (QW H S m)) :
    WB (cx B N q st f cdv A outer s H E) (defBody st) { nx := fun _ H' => Q .non H', rt := Q } (L2.start N vs) H := by
  obtain ⟨S, m, ds, r, so, hd, hl, hw, hR, hp⟩ := h
  have t := ty_start (N := N) hd (by rw [hl]; exact hN)
  rw [hl] at t
  exact body S m ds r hl hR hp _ H t so ⟨Same.refl H, hw⟩
theorem kmq_of {B : Bs} {C : Addr} {x q : Str} {st : Stmt} {f : Addr} {fd : FuncData} {N ps : List Str} {k n : Nat} {R : Trq} (F : Fun B.K x q st f fd) (m : Meth B.K C x f) (hb : Binds B.K fd ps []) (sc : FnScope N ps (defScope st)) (hn : n = ps.length) (hN : n ≤ N.length) (body : BodyQ B q st f N k n R) : Kmq B C x (k + 1) n R := by
  obtain ⟨oc, od, kV, doc, pm, an, cdv, ct, osl, e, lk, hcd⟩ := F.ex
  refine ⟨f, fd, ps, ?_, m, hb⟩
  subst e
  exact fn_of lk hcd sc (fun vs H Q E h => (spQ_len h).trans hn) fun A outer s H vs Q E hr h => bodyQ h hN (body cdv A outer s H Q E hr)
theorem kq_of {B : Bs} {x : Str} {st : Stmt} {f : Addr} {fd : FuncData} {N ps : List Str} {k n : Nat} {R : Trq} (F : Fun B.K x x st f fd) (m : B.mg x = some (.ref f)) (hb : Binds B.K fd ps []) (sc : FnScope N ps (defScope st)) (hn : n = ps.length) (hN : n ≤ N.length) (body : BodyQ B x st f N k n R) : Kq B x (k + 1) n R :=
  kd_of F m hb sc (fun vs H Q E h => (spQ_len h).trans hn) fun cdv A outer s H vs Q E hr h => bodyQ h hN (body cdv A outer s H Q E hr)
section
variable {X : Cx} {S : Set'} {m : Ms} {G : Gm} {W W1 W2 W3 : As} {pos apos cpos : Pos} {o e a b : Expr} {es : List Expr} {d : D} {ds l : List D} {p C c : Addr} {f x mt : Str} {ks : List Str} {k j n : Nat} {R : Trq}
theorem Ob.get {H : Hp} {i : Nat} {a : Addr} {o : OD} (h : Ob S m H) (hm : m[i]? = some (a, o)) : S a ∧ OAt S H a o := h.at' _ (List.mem_of_getElem? hm)
theorem ev_fQ (i j : Nat) (hW : ∀ H, W1 H → Ob S m H) (ho : Ev X S e G W (.ref p) W1) (cl : Cls X.K C) (nf : NoAttr X.K C f) (hm : m[i]? = some (p, .ins C ks ds) := by rfl) (hk : ks[j]? = some f := by rfl) (hd : ds[j]? = some d := by rfl) (hb : attributeBase e f X.env (eval e X.env) = eval e X.env := by rfl) :
    Ev X S (.Attribute e f pos) G W d W1 := ev_fld ho cl nf (fun H so w => by
  obtain ⟨dx, vs, e1, r, hl, nd, _⟩ := ((hW H w).get hm).2
  obtain ⟨v, hv, pv⟩ := r.get hd
  exact ⟨dx, _, v, e1, zip_lookup nd hk hv, pv⟩) hb
theorem ev_ixQ (i : Nat) {p : Addr} {z : Int} (hW : ∀ H, W2 H → Ob S m H) (ha : Ev X S a G W (.ref p) W1) (hb : Ev X S b G W1 (.int z) W2) (hd : atI l z = some d) (hm : m[i]? = some (p, .lst l) := by rfl) (hs : PlainIx b := by exact fun _ _ => rfl) : Ev X S (.Subscript a b pos) G W d W2 := fun σ H ty so w Q q =>
  ⟨_, pe_ix ix_list we_pe we_pe hs, ha σ H ty so w _ fun x H1 k1 w1 p1 => hb σ H1 (ty.kept k1) (so.kept k1) w1 _ fun y H2 k2 w2 p2 => by
    obtain ⟨s, ys, e1, r⟩ := (hW H2 w2).get hm
    cases (show x = .ref p from p1)
    cases (show y = .int z from p2)
    obtain ⟨v, hv, pv⟩ := atI_dat r hd
    exact ⟨p, ys, z, v, rfl, rfl, SqL.of e1, hv, q v H2 (k1.trans k2) w2 pv⟩⟩
theorem ev_lenQ (i : Nat) {p : Addr} {pf : Pos} (hW : ∀ H, W1 H → Ob S m H) (ha : Ev X S a G W (.ref p) W1) (hb : X.mg "len" = none) (hm : m[i]? = some (p, .lst l) := by rfl) (hg : Gl X "len" := by rfl)
    (hs : starEach [a] X.env = (false, eval a X.env) :: starEach [] X.env := by rfl) (hpl : (backTo pos (starEach [] X.env)).any (·.1) = false := by rfl) : Ev X S (.Call (.Name "len" pf) [a] [] pos) G W (.int (l.length : Int)) W1 := fun σ H ty so w Q q => by
  refine ⟨_, pe_callB call_len_seq hg hb boot_len (pa_cons we_pe pa_nil hs) (by decide) (by decide) hs hpl, ha σ H ty so w _ fun x H1 k1 w1 p1 => ?_⟩
  obtain ⟨s, ys, e1, r⟩ := (hW H1 w1).get hm
  cases (show x = .ref p from p1)
  exact ⟨p, ys, rfl, .inl (SqL.of e1), q _ H1 k1 w1 (by rw [r.len]; rfl)⟩
theorem insQ {H : Hp} {i : Nat} (h : Ob S m H) (hm : m[i]? = some (p, .ins C ks ds)) (hk : mt ∉ ks) : ∃ dx fs, H p = some (.ins C dx fs) ∧ fs.lookup mt = none := by
  obtain ⟨s, dx, vs, e1, r⟩ := h.get hm
  exact ⟨dx, _, e1, zip_none hk⟩
theorem ev_methQ (i : Nat) {pl : Sem Bool} {cs : List D} (hW : ∀ H, W1 H → Ob S m H) (hs : Stb W1) (h : Kmq (bsOf X) C mt k n R) (cl : Cls X.K C) (hr : Room j X.A) (ho : Ev X S o G W (.ref p) W1) (ha : EvA X S (e :: es) G W1 ds W1) (hR : R m (.ref p :: ds) (.ok d)) (hi : m[i]? = some (p, .ins C ks cs) := by rfl) (hmt : mt ∉ ks := by decide +kernel)
    (hn : (D.ref p :: ds).length = n := by rfl) (hj : k ≤ j := by decide)
    (hst : starEach (e :: es) X.env = (false, eval e X.env) :: starEach es X.env := by rfl) (hpl : (backTo pos (starEach es X.env)).any (·.1) = false := by rfl)
    (ht : eval (.Call (.Attribute o mt apos) (e :: es) [] pos) X.env = (do
      let ov ← eval o X.env
      standAt apos.atName
      let (f, first) ← holding [ov] (getMethod ov mt pl)
      callWith pos f first (backTo pos (starEach (e :: es) X.env)) (backToKw pos (keywordEach [] X.env))) := by rfl) : Ev X S (.Call (.Attribute o mt apos) (e :: es) [] pos) G W d W1 := fun σ H ty so w Q q => by
  obtain ⟨f, fd, ps, FF, hm, hb⟩ := h
  refine ⟨_, pe_meth we_pe cl hm FF (hr.mono hj) hb .nil pass_fa wa_pa hst hpl ht, ho σ H ty so w _ fun v H1 k1 w1 p1 => ?_⟩
  obtain ⟨dx, fs, e1, e2⟩ := insQ (hW H1 w1) hi hmt
  cases (show v = .ref p from p1)
  refine ⟨p, dx, fs, rfl, e1, e2, ha σ H1 (ty.kept k1) (so.kept k1) w1 _ fun vs H2 k2 w2 p2 => ?_⟩
  rw [List.append_nil]
  exact ⟨S, m, .ref p :: ds, .ok d, so.kept (k1.trans k2), ⟨_, vs, rfl, rfl, p2⟩, hn, hW H2 w2, hR, fun v H3 e3 p3 => q v H3 ((k1.trans k2).trans (Same.kept e3)) (hs _ _ w2 e3) p3⟩
theorem evx_methQ (i : Nat) {pl : Sem Bool} {cs : List D} (hW : ∀ H, W1 H → Ob S m H) (hs : Stb W1) (h : Kmq (bsOf X) C mt k n R) (cl : Cls X.K C) (hr : Room j X.A) (ho : Ev X S o G W (.ref p) W1) (ha : EvA X S (e :: es) G W1 ds W1) (hR : R m (.ref p :: ds) (.exc c)) (hi : m[i]? = some (p, .ins C ks cs) := by rfl) (hmt : mt ∉ ks := by decide +kernel)
    (hn : (D.ref p :: ds).length = n := by rfl) (hj : k ≤ j := by decide)
    (hst : starEach (e :: es) X.env = (false, eval e X.env) :: starEach es X.env := by rfl) (hpl : (backTo pos (starEach es X.env)).any (·.1) = false := by rfl)
    (ht : eval (.Call (.Attribute o mt apos) (e :: es) [] pos) X.env = (do
      let ov ← eval o X.env
      standAt apos.atName
      let (f, first) ← holding [ov] (getMethod ov mt pl)
      callWith pos f first (backTo pos (starEach (e :: es) X.env)) (backToKw pos (keywordEach [] X.env))) := by rfl) : EvX X S (.Call (.Attribute o mt apos) (e :: es) [] pos) G W c W1 := fun σ H ty so w Ex tk q Q => by
  obtain ⟨f, fd, ps, FF, hm, hb⟩ := h
  refine ⟨_, pe_meth we_pe cl hm FF (hr.mono hj) hb .nil (pass_x tk) wa_pa hst hpl ht, ho σ H ty so w _ fun v H1 k1 w1 p1 => ?_⟩
  obtain ⟨dx, fs, e1, e2⟩ := insQ (hW H1 w1) hi hmt
  cases (show v = .ref p from p1)
  refine ⟨p, dx, fs, rfl, e1, e2, ha σ H1 (ty.kept k1) (so.kept k1) w1 _ fun vs H2 k2 w2 p2 => ?_⟩
  rw [List.append_nil]
  exact ⟨S, m, .ref p :: ds, .exc c, so.kept (k1.trans k2), ⟨_, vs, rfl, rfl, p2⟩, hn, hW H2 w2, hR, fun H3 e3 => ⟨c, rfl, rfl, q H3 ((k1.trans k2).trans (Same.kept e3)) (hs _ _ w2 e3)⟩⟩
theorem ev_meth0Q (i : Nat) {pl : Sem Bool} {cs : List D} (hW : ∀ H, W1 H → Ob S m H) (hs : Stb W1) (h : Kmq (bsOf X) C mt k 1 R) (cl : Cls X.K C) (hr : Room j X.A) (ho : Ev X S o G W (.ref p) W1) (hR : R m [.ref p] (.ok d)) (hi : m[i]? = some (p, .ins C ks cs) := by rfl) (hmt : mt ∉ ks := by decide +kernel) (hj : k ≤ j := by decide)
    (ht : eval (.Call (.Attribute o mt apos) [] [] pos) X.env = (do
      let ov ← eval o X.env
      standAt apos.atName
      let (f, first) ← holding [ov] (getMethod ov mt pl)
      callWith pos f first (backTo pos (starEach [] X.env)) (backToKw pos (keywordEach [] X.env))) := by rfl) : Ev X S (.Call (.Attribute o mt apos) [] [] pos) G W d W1 := fun σ H ty so w Q q => by
  obtain ⟨f, fd, ps, FF, hm, hb⟩ := h
  refine ⟨_, pe_meth0 we_pe cl hm FF (hr.mono hj) hb .nil pass_fa ht, ho σ H ty so w _ fun v H1 k1 w1 p1 => ?_⟩
  obtain ⟨dx, fs, e1, e2⟩ := insQ (hW H1 w1) hi hmt
  cases (show v = .ref p from p1)
  exact ⟨p, dx, fs, rfl, e1, e2, S, m, [.ref p], .ok d, so.kept k1, ⟨_, [], rfl, rfl, rfl⟩, rfl, hW H1 w1, hR, fun v H3 e3 p3 => q v H3 (k1.trans (Same.kept e3)) (hs _ _ w1 e3) p3⟩
theorem ev_callQ {pf : Pos} (h : Kq (bsOf X) x k n R) (hr : Room j X.A) (ha : EvA X S (e :: es) G W ds W1) (hW : ∀ H, W1 H → Ob S m H) (hs : Stb W1) (hR : R m ds (.ok d)) (hn : ds.length = n := by rfl) (hj : k ≤ j := by decide) (hg : Gl X x := by rfl)
    (hdb : (x == ("__debug__" : Str)) = false := by decide) (he : starEach (e :: es) X.env = (false, eval e X.env) :: starEach es X.env := by rfl) (hpl : (backTo pos (starEach es X.env)).any (·.1) = false := by rfl) : Ev X S (.Call (.Name x pf) (e :: es) [] pos) G W d W1 := fun σ H ty so w Q q => by
  obtain ⟨f, fd, ps, FF, hm, hk, hb⟩ := h
  exact ⟨_, pe_callS FF (hr.mono hj) hg hm hk hb (fun σ => pass_f) wa_pa hdb he hpl, ha σ H ty so w _ fun vs H1 k1 w1 p1 => ⟨S, m, ds, .ok d, so.kept k1, p1, hn, hW H1 w1, hR, fun v H2 e2 p2 => q v H2 (k1.trans (Same.kept e2)) (hs _ _ w1 e2) p2⟩⟩
end
/-! ### the server -/
structure SvS where
  known : List Nat
  taken : List (Int × D)
  serials : List Int
def tkD (p : Int × D) : D := .tup [.int p.1, p.2]
abbrev ksS : List Str := ["known", "taken", "serials"]
def svM (A : Ad) (sv t q : Addr) (x : SvS) : Ms := [(sv, .ins A.srv ksS [.str (Sx x.known), .ref t, .ref q]), (t, .lst (x.taken.map tkD)), (q, .lst (x.serials.map D.int))]
structure SvOk (x : SvS) : Prop where
  sg : x.known.all inSG = true
  kl : x.known.length ≤ 60
  tl : x.taken.length ≤ 60
  ch : ∀ p ∈ x.taken, ∃ l, p.2 = .lst l
  sl : x.serials.length ≤ 8
section
variable {B : Bs} {A : Ad}
def R_svtext (A : Ad) (m : Ms) (ds : List D) (r : Res) : Prop := ∃ sv t q x, m = svM A sv t q x ∧ ds = [.ref sv] ∧ r = .ok (.str (Sx x.known))
theorem ok_sv_text (T : Txt B A) : Kmq B A.srv "text" 1 1 (R_svtext A) := by
  obtain ⟨f, fd, F, m⟩ := T.m_Server_text
  refine kmq_of F m (F.binds fun _ _ _ _ _ _ us hl => match us, hl with | [_], _ => rfl) c_Server_text rfl (by decide) fun cdv A' outer s H Q E hr S m ds r hl hR hp => ?_
  obtain ⟨sv, t, q, x, rfl, rfl, rfl⟩ := hR
  exact blk_retR hp (ev_fQ (m := svM A sv t q x) 0 0 (fun _ w => w.2) (ev_name 0) T.srv.cl (T.srv.nf _ (by decide))) rfl fun _ w => w.1
def R_svmany (A : Ad) (m : Ms) (ds : List D) (r : Res) : Prop := ∃ sv t q x, m = svM A sv t q x ∧ ds = [.ref sv] ∧ r = .ok (.int (x.taken.length : Int))
theorem ok_sv_many (T : Txt B A) : Kmq B A.srv "many" 1 1 (R_svmany A) := by
  obtain ⟨f, fd, F, m⟩ := T.m_Server_many
  refine kmq_of F m (F.binds fun _ _ _ _ _ _ us hl => match us, hl with | [_], _ => rfl) c_Server_many rfl (by decide) fun cdv A' outer s H Q E hr S m ds r hl hR hp => ?_
  obtain ⟨sv, t, q, x, rfl, rfl, rfl⟩ := hR
  exact blk_retR hp (ev_is (ev_lenQ (m := svM A sv t q x) 1 (fun _ w => w.2) (ev_fQ (m := svM A sv t q x) 0 1 (fun _ w => w.2) (ev_name 0) T.srv.cl (T.srv.nf _ (by decide))) T.zlen) (congrArg D.int (by rw [List.length_map]))) rfl fun _ w => w.1
/-- the n-th change that was taken -/
def tkN (x : SvS) (n : Int) : Int × D := x.taken.getD (n - 1).toNat (0, .lst [])
theorem tkN_at {x : SvS} {n : Int} (h1 : 1 ≤ n) (h2 : n ≤ x.taken.length) : atI (x.taken.map tkD) (n - 1) = some (tkD (tkN x n)) := by
  refine atI_of (n := (n - 1).toNat) (by omega) ?_
  rw [List.getElem?_map, getD_of (0, D.lst []) (by omega)]
  rfl
theorem tkN_mem {x : SvS} {n : Int} (h1 : 1 ≤ n) (h2 : n ≤ x.taken.length) : tkN x n ∈ x.taken := List.mem_of_getElem? (getD_of (0, D.lst []) (by omega))
def R_svchange (A : Ad) (m : Ms) (ds : List D) (r : Res) : Prop := ∃ sv t q x d, m = svM A sv t q x ∧ SvOk x ∧ ds = [.ref sv, d] ∧ nr d = true ∧
  ((numB d 1 x.taken.length = false ∧ r = .exc A.gone) ∨ (∃ i : Int, d = .int i ∧ 1 ≤ i ∧ i ≤ x.taken.length ∧ r = .ok (tkN x i).2))
theorem numB_int {i lo hi : Int} : numB (.int i) lo hi = (decide (lo ≤ i) && decide (i ≤ hi)) := rfl
theorem ok_sv_change (T : Txt B A) : Kmq B A.srv "change" 3 2 (R_svchange A) := by
  obtain ⟨f, fd, F, m⟩ := T.m_Server_change
  have k_is_number := ok_is_number T
  refine kmq_of F m (F.binds fun _ _ _ _ _ _ us hl => match us, hl with | [_, _], _ => rfl) c_Server_change rfl (by decide) fun cdv A' outer s H Q E hr S m ds r hl hR hp => ?_
  obtain ⟨sv, t, q, x, d, rfl, hx, rfl, hd, hc⟩ := hR
  have hq : ∀ H', QW H S (svM A sv t q x) H' → Ob S (svM A sv t q x) H' := fun _ w => w.2
  have len : ∀ {G : Gm} {p1 p2 p3 p4 : Pos}, G[0]? = some (some (.ref sv)) → Ev (cx B n_Server_change "Server.change" s_Server_change f cdv A' outer s H E) S (.Call (.Name "len" p1) [.Attribute (.Name "self" p2) "taken" p3] [] p4) G (QW H S (svM A sv t q x)) (.int (x.taken.length : Int)) (QW H S (svM A sv t q x)) := fun hG =>
    ev_is (ev_lenQ 1 hq (ev_fQ 0 1 hq (ev_name 0 rfl (Or.inl rfl) hG) T.srv.cl (T.srv.nf _ (by decide))) T.zlen) (congrArg D.int (by rw [List.length_map]))
  rcases hc with ⟨hc, rfl⟩ | ⟨i, rfl, h1, h2, rfl⟩
  · refine blk_if (et_is (et_not (et_val (ev_call k_is_number hr (eva_cons (ev_name 1) (eva_cons ev_int (eva_cons (len rfl) eva_nil))) stb_QW ⟨_, _, _, rfl, hd, rfl⟩))) (congrArg Bool.not hc)) (fun _ => ?_) (fun h => Bool.noConfusion h)
    exact blk_raise tk_cx T.gone fun H' so w => hp H' w.1
  · refine blk_if (et_is (et_not (et_val (ev_call k_is_number hr (eva_cons (ev_name 1) (eva_cons ev_int (eva_cons (len rfl) eva_nil))) stb_QW ⟨_, _, _, rfl, hd, rfl⟩))) (show (!numB (.int i) 1 x.taken.length) = false by
      rw [numB_int, decide_eq_true h1, decide_eq_true h2]
      rfl)) (fun h => Bool.noConfusion h) (fun _ => blk_on ?_)
    obtain ⟨l, hl2⟩ := hx.ch _ (tkN_mem h1 h2)
    have e1 : atI (x.taken.map tkD) (i - 1) = some (.tup [.int (tkN x i).1, .lst l]) := by
      rw [tkN_at h1 h2, tkD, hl2]
    rw [hl2] at hp
    exact blk_retR hp (ev_bt (eva_cons (ev_ix (ev_ixQ 1 hq (ev_fQ 0 1 hq (ev_name 0) T.srv.cl (T.srv.nf _ (by decide))) (ev_bin (ev_name 1) ev_int (by walk_at "op") stb_QW) e1) ev_int (by walk_at "ix")) eva_nil) co_list_lst stb_QW T.zlist boot_list) rfl fun _ w => w.1
/-- the letter for a hand about the n-th change -/
def tookL (x : SvS) (h n : Int) : D := .tup [.str tookS, .int h, .int n, .int (tkN x n).1, (tkN x n).2]
def R_svtook (A : Ad) (m : Ms) (ds : List D) (r : Res) : Prop := ∃ sv t q x h n, m = svM A sv t q x ∧ SvOk x ∧ ds = [.ref sv, .int h, .int n] ∧ 1 ≤ n ∧ n ≤ x.taken.length ∧ r = .ok (tookL x h n)
theorem ok_sv_took (T : Txt B A) : Kmq B A.srv "took" 1 3 (R_svtook A) := by
  obtain ⟨f, fd, F, m⟩ := T.m_Server_took
  refine kmq_of F m (F.binds fun _ _ _ _ _ _ us hl => match us, hl with | [_, _, _], _ => rfl) c_Server_took rfl (by decide) fun cdv A' outer s H Q E hr S m ds r hl hR hp => ?_
  obtain ⟨sv, t, q, x, h, n, rfl, hx, rfl, h1, h2, rfl⟩ := hR
  have hq : ∀ H', QW H S (svM A sv t q x) H' → Ob S (svM A sv t q x) H' := fun _ w => w.2
  obtain ⟨l, hl2⟩ := hx.ch _ (tkN_mem h1 h2)
  have e1 : atI (x.taken.map tkD) (n - 1) = some (.tup [.int (tkN x n).1, .lst l]) := by
    rw [tkN_at h1 h2, tkD, hl2]
  rw [tookL, hl2] at hp
  refine blk_set2 3 4 (ev_ixQ 1 hq (ev_fQ 0 1 hq (ev_name 0) T.srv.cl (T.srv.nf _ (by decide))) (ev_bin (ev_name 2) ev_int (by walk_at "op") stb_QW) e1) ?_ c_Server_took.nd
  exact blk_retR hp (ev_tup (eva_cons ev_str (eva_cons (ev_name 1) (eva_cons (ev_name 2) (eva_cons (ev_name 3) (eva_cons (ev_bt (eva_cons (ev_name 4) eva_nil) co_list_lst stb_QW T.zlist boot_list) eva_nil))))) stb_QW) rfl fun _ w => w.1
end
end Ink
/-! Ink19 -/
/-! The server: take, came, made. -/
namespace Ink
open PySem PySem.Spec PyProof.Rows L2
local macro_rules | `(tactic| walk_at "op") => `(tactic| first
  | exact bo_add | exact bo_sub | exact bo_lt | exact bo_le | exact bo_gt | exact bo_ge | exact bo_eqI | exact bo_neI | exact bo_eqS | exact bo_neS | exact bo_in2 | exact bo_eq | exact bo_ne)
local macro_rules | `(tactic| walk_at "ix") => `(tactic| first | exact io_tup rfl | exact io_lst rfl)
section
variable {X : Cx} {S M : Set'} {Hs : Hp} {m : Ms} {G : Gm} {W W1 : As} {pos pos' : Pos} {o v a b : Expr} {f : Str} {c : Addr} {rest : List Stmt} {E : Ends}
theorem blk_fldX {Ex : Addr → Hp → Prop} (tk : Tk X Ex) (h : EvX X S v G W c W1) (k : ∀ H, SOk S H → W1 H → Ex c H) (hs : swapsWith v (some (.Attribute o f pos')) pos.line X.env = pure false := by rfl) : Blk X S (.Assign [.Attribute o f pos'] v pos :: rest) E G W := fun σ H ty so w =>
  ⟨_, pss_cons (ps_fld (we_pe (e := o)) (we_pe (e := v)) hs) pss_never, h σ H ty so w Ex tk (fun H' k1 w1 => k H' (so.kept k1) w1) _⟩
theorem evx_ix (h : EvX X S a G W c W1) (hs : PlainIx b := by exact fun _ _ => rfl) : EvX X S (.Subscript a b pos) G W c W1 := fun σ H ty so w Ex tk q Q =>
  ⟨_, pe_ix ix_tup we_pe (we_pe (e := b)) hs, h σ H ty so w Ex tk q _⟩
theorem comp_ob {S' : Set'} {H0 H1 : Hp} (w0 : OB Hs M S m H0) (e1 : Same H0 H1) (off : ∀ b, H0 b ≠ none → S' b → S b) (sub : ∀ b, S b → S' b) : ∀ H, inL H1 (OB Hs M S m) H → Ob S' m H := fun H w => ((w0.o.off off fun x hx => sub _ (w0.o.at' x hx).1).same e1).same w.1
end
theorem sIx_from (n k : Nat) : HT.sIx n 0 (some (k : Int)) = min k n := HT.sIx_nat _ _ _
theorem cutD_from (l : List D) (k : Nat) (h : k ≤ l.length) : cutD l (some (k : Int)) none = l.drop k := by
  unfold cutD
  rw [sIx_from, Nat.min_eq_left h]
  show (l.drop k).take (l.length - k) = l.drop k
  rw [List.take_of_length_le (by rw [List.length_drop]; omega)]
theorem ixN_in {n : Nat} {z : Int} (h0 : 0 ≤ z) (h1 : z < n) : ixN n z = some z.toNat := by
  unfold ixN
  rw [if_pos h0, if_pos (by omega)]
section
variable {B : Bs} {A : Ad}
/-- what take makes -/
def takeSt (x : SvS) (h : Int) (y : List Nat) (ch : D) : SvS := ⟨y, x.taken ++ [(h, ch)], x.serials.set h.toNat (x.serials.getD h.toNat 0 + 1)⟩
def R_take (A : Ad) (m : Ms) (ds : List D) (r : Res) (m' : Ms) : Prop := ∃ sv t q x h k ch, m = svM A sv t q x ∧ SvOk x ∧ ds = [.ref sv, .int h, .int (k : Nat), ch] ∧ 0 ≤ h ∧ h < x.serials.length ∧
  ((∃ l, ch = .lst l ∧ k = x.taken.length ∧ okCh ch = true ∧ changeD ch = true ∧ ((∃ y, doneF x.known l = some y ∧ r = .ok .non ∧ m' = svM A sv t q (takeSt x h y ch)) ∨ (doneF x.known l = none ∧ r = .exc A.fit ∧ m' = m))) ∨
   (∃ c n w tk0, x.taken = tk0 ++ [(w, .lst [cutP c, keepP n])] ∧ k = tk0.length ∧ ch = .lst [cutP hS, keepP n] ∧ CutT c ∧ c ≠ hS ∧ 0 < n ∧ r = .exc A.fit ∧ m' = m))
theorem ok_sv_take (T : Txt B A) : Kmo B A.srv "take" 6 4 (R_take A) := by
  obtain ⟨f, fd, F, m⟩ := T.m_Server_take
  have k_passed := ok_passed T
  have k_done := ok_done T
  refine kmo_of F m (F.binds fun _ _ _ _ _ _ us hl => match us, hl with | [_, _, _, _], _ => rfl) c_Server_take rfl (by decide) fun cdv A' outer s H Q E hr S m ds r m' hl hR hSS hp => ?_
  have nd := c_Server_take.nd
  obtain ⟨sv, t, q, x, h, k, ch, rfl, hx, rfl, h0, h1, hc⟩ := hR
  rcases hc with ⟨l, rfl, rfl, hok, hch, hc⟩ | ⟨c, n, w, tk0, htk, rfl, rfl, hc, hne, hn, rfl, rfl⟩
  · refine blk_set 3 (ev_bt (eva_cons (ev_name 3) eva_nil) co_list_lst stb_OB T.zlist boot_list) ?_ nd
    have e0 : cutD (x.taken.map tkD) (some (x.taken.length : Int)) none = [] := by
      rw [cutD_from _ _ (by rw [List.length_map]; exact Nat.le_refl _)]
      exact List.drop_eq_nil_of_le (by rw [List.length_map]; exact Nat.le_refl _)
    refine blk_for2 4 5 (ps := []) (fun _ => [some (.ref sv), some (.int h), some (.int (x.taken.length : Int)), some (.lst l), none, none]) (fun _ => OB H (adr (svM A sv t q x)) S (svM A sv t q x)) (ev_is (ev_slO 1 (ev_fO 0 1 (ev_name 0) T.srv.cl (T.srv.nf _ (by decide))) (eo_some (ev_name 2)) eo_none) (congrArg D.lst e0)) (fun σ H' t so w => ⟨t, w⟩) (fun i a b Hs hi => by simp at hi) ?_ nd po_cx
    have hdr : ∀ r0, r0 = (match doneF x.known l with
        | some y => Res.ok (.str (Sx y))
        | none => .exc A.fit) → R_done A [.str (Sx x.known), .lst l] r0 := fun r0 e => ⟨x.known, .lst l, rfl, hx.sg, Nat.le_trans hx.kl (by decide), hok, by
      rw [e]
      unfold doneR
      rw [if_pos hch]
      rfl⟩
    rcases hc with ⟨y, hy, rfl, rfl⟩ | ⟨hy, rfl, rfl⟩
    · refine blk_fO 0 0 (ev_call k_done hr (eva_cons (ev_fO 0 0 (ev_name 0) T.srv.cl (T.srv.nf _ (by decide))) (eva_cons (ev_name 3) eva_nil)) stb_OB (hdr (.ok (.str (Sx y))) (by rw [hy]))) (ev_name 0) T.srv.cl (T.srv.nf _ (by decide)) ?_
      refine blk_expr (ev_appO 1 (ev_fO 0 1 (ev_name 0) T.srv.cl (T.srv.nf _ (by decide))) (ev_tup (eva_cons (ev_name 1) (eva_cons (ev_name 3) eva_nil)) stb_OB) rfl (by rw [List.length_map]; have := hx.tl; omega)) ?_
      have hj : h.toNat < x.serials.length := by omega
      have ser : atI (x.serials.map D.int) h = some (.int (x.serials.getD h.toNat 0)) := atI_of (n := h.toNat) (by omega) (by rw [List.getElem?_map, getD_of 0 hj]; rfl)
      have hix : ixN (x.serials.map D.int).length h = some h.toNat := ixN_in h0 (by rw [List.length_map]; exact h1)
      refine blk_stO 2 (l := x.serials.map D.int) (z := h) (j := h.toNat) (ev_bin (ev_ixO 2 (ev_fO 0 2 (ev_name 0) T.srv.cl (T.srv.nf _ (by decide))) (ev_name 1) ser) ev_int (by walk_at "op") stb_OB) (ev_fO 0 2 (ev_name 0) T.srv.cl (T.srv.nf _ (by decide))) (ev_name 1) hix ?_
      have e : svM A sv t q (takeSt x h y (.lst l)) = [(sv, .ins A.srv ksS [.str (Sx y), .ref t, .ref q]), (t, .lst (x.taken.map tkD ++ [.tup [.int h, .lst l]])), (q, .lst ((x.serials.map D.int).set h.toNat (.int (x.serials.getD h.toNat 0 + 1))))] := by
        unfold svM takeSt
        rw [List.map_append, List.map_set]
        rfl
      rw [e] at hp
      exact blk_nil fun σ H' t so w => hp .non H' w.k w.o rfl
    · exact blk_fldX tk_cx (evx_call k_done hr (eva_cons (ev_fO 0 0 (ev_name 0) T.srv.cl (T.srv.nf _ (by decide))) (eva_cons (ev_name 3) eva_nil)) stb_OB (hdr (.exc A.fit) (by rw [hy]))) fun H' so w => hp H' w.k w.o
  · refine blk_set 3 (ev_bt (eva_cons (ev_name 3) eva_nil) co_list_lst stb_OB T.zlist boot_list) ?_ nd
    have e0 : cutD (x.taken.map tkD) (some (tk0.length : Int)) none = [((.int w : D), D.lst [cutP c, keepP n])].map fun p => D.tup [p.1, p.2] := by
      rw [cutD_from _ _ (by rw [List.length_map, htk, List.length_append]; omega), htk, List.map_append, List.drop_append_of_le_length (by rw [List.length_map]; exact Nat.le_refl _), List.drop_eq_nil_of_le (by rw [List.length_map]; exact Nat.le_refl _)]
      rfl
    refine blk_for2 4 5 (ps := [(.int w, .lst [cutP c, keepP n])]) (fun _ => [some (.ref sv), some (.int h), some (.int (tk0.length : Int)), some (.lst [cutP hS, keepP n]), none, none]) (fun i => match i with
      | 0 => OB H (adr (svM A sv t q x)) S (svM A sv t q x)
      | _ => fun _ => False) (ev_is (ev_slO 1 (ev_fO 0 1 (ev_name 0) T.srv.cl (T.srv.nf _ (by decide))) (eo_some (ev_name 2)) eo_none) (congrArg D.lst e0)) (fun σ H' t so w => ⟨t, w⟩) (fun i a b Hs hi => ?_) (fun _ _ _ _ w => w.elim) nd po_cx
    match i, hi with
    | 0, hi =>
      cases hi
      exact blk_setX 3 tk_cx (evx_ix (evx_call k_passed hr (eva_cons (ev_name 5) (eva_cons (ev_name 3) eva_nil)) (stb_withK stb_OB) (.inl ⟨c, n, hc, hne, hn, rfl, rfl⟩))) (fun H' so w => hp H' w.1.k w.1.o) nd
    | i + 1, hi => simp at hi
/-! came -/
def okLt : D → Bool
  | .tup l => okL3 l && okL5 l
  | d => nr d
theorem okLt_nr : ∀ {d : D}, okLt d = true → nr d = true
  | .non, _ => rfl
  | .bl _, _ => rfl
  | .int _, _ => rfl
  | .str _, _ => rfl
  | .tup _, _ => rfl
  | .lst _, _ => rfl
  | .dct, _ => rfl
  | .ref _, h => nomatch h
  | .ty _, h => nomatch h
/-- a letter that the server knows -/
def goodS (x : SvS) : D → Bool
  | .tup l => againD l x.serials.length x.taken.length || askD l x.serials.length x.taken.length
  | _ => false
def agL (h k : Int) : List D := [.str againS, .int h, .int k]
def asL (h s k : Int) (ch : D) : List D := [.str askS, .int h, .int s, .int k, ch]
def R_came (A : Ad) (m : Ms) (ds : List D) (r : Res) (m' : Ms) : Prop := ∃ sv t q x d, m = svM A sv t q x ∧ SvOk x ∧ ds = [.ref sv, d] ∧
  ((∃ (h : Int) (k : Nat), d = .tup (agL h k) ∧ 0 ≤ h ∧ h < x.serials.length ∧ k ≤ x.taken.length ∧ r = .ok (.lst ((List.range (x.taken.length - k)).map fun (i : Nat) => tookL x h (k + 1 + i))) ∧ m' = m) ∨
   (okLt d = true ∧ goodS x d = false ∧ r = .exc A.letter ∧ m' = m) ∨
   (∃ (h s : Int) (k : Nat) (ch : D), d = .tup (asL h s k ch) ∧ okCh ch = true ∧ changeD ch = true ∧ 0 ≤ h ∧ h < x.serials.length ∧ 0 < s ∧ k ≤ x.taken.length ∧
     ((s ≠ x.serials.getD h.toNat 0 + 1 ∧ r = .ok (.lst []) ∧ m' = m) ∨
      (s = x.serials.getD h.toNat 0 + 1 ∧ ((∃ x', R_take A m [.ref sv, .int h, .int (k : Nat), ch] (.ok .non) (svM A sv t q x') ∧ SvOk x' ∧ 1 ≤ x'.taken.length ∧ m' = svM A sv t q x' ∧ r = .ok (.lst ((List.range x'.serials.length).map fun (i : Nat) => tookL x' i x'.taken.length))) ∨
        (∃ c, R_take A m [.ref sv, .int h, .int (k : Nat), ch] (.exc c) m ∧ m' = m ∧ r = .exc c))))))
theorem numB_in {i lo hi : Int} (h1 : lo ≤ i) (h2 : i ≤ hi) : numB (.int i) lo hi = true := by
  rw [numB_int, decide_eq_true h1, decide_eq_true h2]
  rfl
theorem againD_mk {h k a b : Int} (h1 : 0 ≤ h) (h2 : h < a) (h3 : 0 ≤ k) (h4 : k ≤ b) : againD (agL h k) a b = true := by
  unfold agL
  rw [againD_eq, decide_eq_true rfl, numB_in h1 (by omega), numB_in h3 h4]
  rfl
theorem askD_mk {h s k a b : Int} {ch : D} (h1 : 0 ≤ h) (h2 : h < a) (h3 : 0 < s) (h4 : 0 ≤ k) (h5 : k ≤ b) (h6 : changeD ch = true) : askD (asL h s k ch) a b = true := by
  unfold asL
  rw [askD_eq, decide_eq_true rfl, numB_in h1 (by omega), numB_in h4 h5, h6]
  show (true && (true && (true && (decide (0 < s) && (true && true))))) = true
  rw [decide_eq_true h3]
  rfl
theorem ok_sv_came (T : Txt B A) : Kmo B A.srv "came" 7 2 (R_came A) := by
  obtain ⟨f, fd, F, m⟩ := T.m_Server_came
  have k_is_again := ok_is_again T
  have k_is_ask := ok_is_ask T
  have k_took := ok_sv_took T
  have k_take := ok_sv_take T
  refine kmo_of F m (F.binds fun _ _ _ _ _ _ us hl => match us, hl with | [_, _], _ => rfl) c_Server_came rfl (by decide) fun cdv A' outer s0 H Q E hr S m ds r m' hl hR hSS hp => ?_
  have nd := c_Server_came.nd
  obtain ⟨sv, t, q, x, d, rfl, hx, rfl, hc⟩ := hR
  have tl : ∀ {G : Gm} {p1 p2 p3 p4 : Pos} {M : Set'} {Hs : Hp} {x : SvS}, G[0]? = some (some (.ref sv)) → Ev (cx B n_Server_came "Server.came" s_Server_came f cdv A' outer s0 H E) S (.Call (.Name "len" p1) [.Attribute (.Name "self" p2) "taken" p3] [] p4) G (OB Hs M S (svM A sv t q x)) (.int (x.taken.length : Int)) (OB Hs M S (svM A sv t q x)) := fun hG =>
    ev_is (ev_lenO 1 (ev_fO 0 1 (ev_name 0 (hG := hG)) T.srv.cl (T.srv.nf _ (by decide))) T.zlen boot_len) (congrArg D.int (by rw [List.length_map]))
  have sl : ∀ {G : Gm} {p1 p2 p3 p4 : Pos} {M : Set'} {Hs : Hp} {x : SvS}, G[0]? = some (some (.ref sv)) → Ev (cx B n_Server_came "Server.came" s_Server_came f cdv A' outer s0 H E) S (.Call (.Name "len" p1) [.Attribute (.Name "self" p2) "serials" p3] [] p4) G (OB Hs M S (svM A sv t q x)) (.int (x.serials.length : Int)) (OB Hs M S (svM A sv t q x)) := fun hG =>
    ev_is (ev_lenO 2 (ev_fO 0 2 (ev_name 0 (hG := hG)) T.srv.cl (T.srv.nf _ (by decide))) T.zlen boot_len) (congrArg D.int (by rw [List.length_map]))
  rcases hc with ⟨h, k, rfl, h0, h1, hk, rfl, rfl⟩ | ⟨hlt, hg, rfl, rfl⟩ | ⟨h, s, k, ch, rfl, hok, hch, h0, h1, hs, hk, hc⟩
  · have ea : againD (agL h k) x.serials.length x.taken.length = true := againD_mk h0 h1 (by omega) (by omega)
    refine blk_if (et_is (et_w (ew_andT (et_is (et_val (ev_isi T.zisi (ev_name 1) (ev_cls T.ztuple boot_tuple) stb_OB (by decide) rfl)) rfl) (ew_one_and (et_val (ev_call k_is_again hr (eva_cons (ev_name 1) (eva_cons (sl rfl) (eva_cons (tl rfl) eva_nil))) stb_OB ⟨_, _, _, rfl, rfl, rfl⟩))))) ea) (fun _ => ?_) (fun h => Bool.noConfusion h)
    have en : ((x.taken.length : Int) + 1 - ((k : Int) + 1)).toNat = x.taken.length - k := by omega
    refine blk_retO hp (ev_is (ev_lcO (own := [("number", 2)]) (g := gName 2) (fun _ => true) (fun (i : Nat) => tookL x h (k + 1 + i)) (ei_rng2 (eva_cons (ev_bin (ev_ix (ev_name 1) ev_int (by walk_at "ix")) ev_int (by walk_at "op") stb_OB) (eva_cons (ev_bin (tl rfl) ev_int (by walk_at "op") stb_OB) eva_nil)) (by have := hx.tl; omega) T.zrange) stb_OB (by have := hx.tl; omega) (blkOk_by (N := n_Server_came) (sc := defScope s_Server_came) (by decide +kernel)) tgt_name (fun _ _ => trivial)
      (fun _ _ _ _ _ => pg_name nd rfl (Or.inl rfl)) (fun i H0 H1 S' s H2 C cl fp hi w0 e1 off w1 sub => ⟨ets_nil, fun _ => ?_⟩) nd) (congrArg D.lst ?_)) rfl
    · exact ev_methQ 0 (comp_ob w0 e1 off sub) (stb_inL stb_OB) k_took T.srv.cl hr (ev_name 0) (eva_cons (ev_ix (ev_name 1) ev_int (by walk_at "ix")) (eva_cons (ev_name 2) eva_nil)) ⟨sv, t, q, x, h, _, rfl, hx, rfl, by omega, by omega, rfl⟩
    · rw [givenD_all, en]
  · cases c1 : isT "tuple" d with
    | false =>
      refine blk_if (et_w (ew_andF (et_is (et_val (ev_isi T.zisi (ev_name 1) (ev_cls T.ztuple boot_tuple) stb_OB (by decide) (okLt_nr hlt))) c1))) (fun h => Bool.noConfusion h) (fun _ => blk_on ?_)
      refine blk_if (et_w (ew_orT (et_is (et_not (et_val (ev_isi T.zisi (ev_name 1) (ev_cls T.ztuple boot_tuple) stb_OB (by decide) (okLt_nr hlt)))) (congrArg Bool.not c1)))) (fun _ => ?_) (fun h => Bool.noConfusion h)
      exact blk_raise tk_cx T.letter fun H' so w => hp H' w.k w.o
    | true =>
      obtain ⟨l, rfl⟩ := isT_tup (nr_ty (okLt_nr hlt)) c1
      have hlt2 : (okL3 l && okL5 l) = true := hlt
      have hg2 : (againD l x.serials.length x.taken.length || askD l x.serials.length x.taken.length) = false := hg
      rw [Bool.and_eq_true] at hlt2
      rw [Bool.or_eq_false_iff] at hg2
      refine blk_if (et_is (et_w (ew_andT (et_is (et_val (ev_isi T.zisi (ev_name 1) (ev_cls T.ztuple boot_tuple) stb_OB (by decide) rfl)) rfl) (ew_one_and (et_val (ev_call k_is_again hr (eva_cons (ev_name 1) (eva_cons (sl rfl) (eva_cons (tl rfl) eva_nil))) stb_OB ⟨_, _, _, rfl, hlt2.1, rfl⟩))))) hg2.1) (fun h => Bool.noConfusion h) (fun _ => blk_on ?_)
      refine blk_if (et_w (ew_orF (et_is (et_not (et_val (ev_isi T.zisi (ev_name 1) (ev_cls T.ztuple boot_tuple) stb_OB (by decide) rfl))) rfl) (ew_one_or (et_is (et_not (et_val (ev_call k_is_ask hr (eva_cons (ev_name 1) (eva_cons (sl rfl) (eva_cons (tl rfl) eva_nil))) stb_OB ⟨_, _, _, rfl, hlt2.2, rfl⟩))) (congrArg Bool.not hg2.2))))) (fun _ => ?_) (fun h => Bool.noConfusion h)
      exact blk_raise tk_cx T.letter fun H' so w => hp H' w.k w.o
  · have ea : askD (asL h s k ch) x.serials.length x.taken.length = true := askD_mk h0 h1 hs (by omega) (by omega) hch
    have eg : againD (asL h s k ch) x.serials.length x.taken.length = false := againD_len (show ¬ 5 = 3 by decide)
    have h5 : okL5 (asL h s k ch) = true := hok
    refine blk_if (et_is (et_w (ew_andT (et_is (et_val (ev_isi T.zisi (ev_name 1) (ev_cls T.ztuple boot_tuple) stb_OB (by decide) rfl)) rfl) (ew_one_and (et_val (ev_call k_is_again hr (eva_cons (ev_name 1) (eva_cons (sl rfl) (eva_cons (tl rfl) eva_nil))) stb_OB ⟨_, _, _, rfl, rfl, rfl⟩))))) eg) (fun h => Bool.noConfusion h) (fun _ => blk_on ?_)
    refine blk_if (et_w (ew_orF (et_is (et_not (et_val (ev_isi T.zisi (ev_name 1) (ev_cls T.ztuple boot_tuple) stb_OB (by decide) rfl))) rfl) (ew_one_or (et_is (et_not (et_val (ev_call k_is_ask hr (eva_cons (ev_name 1) (eva_cons (sl rfl) (eva_cons (tl rfl) eva_nil))) stb_OB ⟨_, _, _, rfl, h5, rfl⟩))) (congrArg Bool.not ea))))) (fun h => Bool.noConfusion h) (fun _ => blk_on ?_)
    have hj : h.toNat < x.serials.length := by omega
    have ser : atI (x.serials.map D.int) h = some (.int (x.serials.getD h.toNat 0)) := atI_of (n := h.toNat) (by omega) (by rw [List.getElem?_map, getD_of 0 hj]; rfl)
    rcases hc with ⟨hne, rfl, rfl⟩ | ⟨heq, hc⟩
    · refine blk_if (et_is (et_cmp (ev_ix (ev_name 1) ev_int (by walk_at "ix")) (ev_bin (ev_ixO 2 (ev_fO 0 2 (ev_name 0) T.srv.cl (T.srv.nf _ (by decide))) (ev_ix (ev_name 1) ev_int (by walk_at "ix")) ser) ev_int (by walk_at "op") stb_OB) (by walk_at "op") stb_OB) (show (!decide (s = x.serials.getD h.toNat 0 + 1)) = true by rw [decide_eq_false hne]; rfl)) (fun _ => ?_) (fun h => Bool.noConfusion h)
      exact blk_retO hp (ev_lst eva_nil stb_OB) rfl
    · refine blk_if (et_is (et_cmp (ev_ix (ev_name 1) ev_int (by walk_at "ix")) (ev_bin (ev_ixO 2 (ev_fO 0 2 (ev_name 0) T.srv.cl (T.srv.nf _ (by decide))) (ev_ix (ev_name 1) ev_int (by walk_at "ix")) ser) ev_int (by walk_at "op") stb_OB) (by walk_at "op") stb_OB) (show (!decide (s = x.serials.getD h.toNat 0 + 1)) = false by rw [decide_eq_true heq]; rfl)) (fun h => Bool.noConfusion h) (fun _ => blk_on ?_)
      rcases hc with ⟨x', ht, hx', hl', rfl, rfl⟩ | ⟨c, ht, rfl, rfl⟩
      · refine blk_expr (ev_methO [] [] (svM A sv t q x) (svM A sv t q x') 0 k_take T.srv.cl hr (ev_name 0) (eva_cons (ev_ix (ev_name 1) ev_int (by walk_at "ix")) (eva_cons (ev_ix (ev_name 1) ev_int (by walk_at "ix")) (eva_cons (ev_ix (ev_name 1) ev_int (by walk_at "ix")) eva_nil))) ht) ?_
        refine blk_retO hp (ev_is (ev_lcO (own := [("hand", 3)]) (g := gName 3) (fun _ => true) (fun (i : Nat) => tookL x' i x'.taken.length) (ei_rng1 (eva_cons (sl rfl) eva_nil) (by have := hx'.sl; omega) T.zrange) stb_OB (by have := hx'.sl; omega) (blkOk_by (N := n_Server_came) (sc := defScope s_Server_came) (by decide +kernel)) tgt_name (fun _ _ => trivial)
          (fun _ _ _ _ _ => pg_name nd rfl (Or.inl rfl)) (fun i H0 H1 S' s H2 C cl fp hi w0 e1 off w1 sub => ⟨ets_nil, fun _ => ?_⟩) nd) (congrArg D.lst ?_)) rfl
        · have hW := comp_ob w0 e1 off sub
          exact ev_methQ 0 hW (stb_inL stb_OB) k_took T.srv.cl hr (ev_name 0) (eva_cons (ev_name 3) (eva_cons (ev_is (ev_lenQ 1 hW (ev_fQ 0 1 hW (ev_name 0) T.srv.cl (T.srv.nf _ (by decide))) T.zlen) (congrArg D.int (by rw [List.length_map]))) eva_nil)) ⟨sv, t, q, x', i, _, rfl, hx', rfl, by omega, by omega, rfl⟩
        · rw [givenD_all]
      · exact blk_exprX tk_cx (evx_methO [] [] (svM A sv t q x) (svM A sv t q x) 0 k_take T.srv.cl hr (ev_name 0) (eva_cons (ev_ix (ev_name 1) ev_int (by walk_at "ix")) (eva_cons (ev_ix (ev_name 1) ev_int (by walk_at "ix")) (eva_cons (ev_ix (ev_name 1) ev_int (by walk_at "ix")) eva_nil))) ht) fun H' so w => hp H' w.k w.o
end
end Ink
/-! Ink20 -/
/-! The server made; the hand's small words. -/
namespace Ink
open PySem PySem.Spec PyProof.Rows L2
local macro_rules | `(tactic| walk_at "op") => `(tactic| first
  | exact bo_add | exact bo_sub | exact bo_lt | exact bo_le | exact bo_gt | exact bo_ge | exact bo_eqI | exact bo_neI | exact bo_eqS | exact bo_neS | exact bo_in2 | exact bo_eq | exact bo_ne)
local macro_rules | `(tactic| walk_at "ix") => `(tactic| first | exact io_tup rfl | exact io_lst rfl)
section
variable {X : Cx} {S M : Set'} {Hs : Hp} {m : Ms} {G : Gm} {W W1 : As} {pos apos cpos : Pos} {o e : Expr} {es : List Expr} {d : D} {ds l : List D}
/-- [..], new -/
theorem evf_disp (h : ∀ H0, W H0 → EvA X S es G (fun H => W H ∧ Same H0 H) ds (fun H => W1 H ∧ Same H0 H)) (hs : Stb W1) (hz : ds.length ≤ 1000 := by first | decide | (simp; done)) : EvF X S (.List es pos) G W (.lst ds) W1 := fun σ H ty so w Q q => by
  refine ⟨_, pe_lst wa_pa, h H w σ H ty so ⟨w, Same.refl H⟩ _ fun vs H1 k1 w1 p1 => ⟨Nat.le_of_lt (small1000 (by rw [p1.len]; exact hz)), fun p hp => ?_⟩⟩
  have e2 : Same H1 (upd H1 p (.lst vs)) := Same.new hp
  exact q p _ (k1.2 p hp) (k1.trans (Same.kept e2)) (w1.2.trans e2) (hs _ _ w1.1 e2) ⟨vs, upd_same, (DatL.off (wid_off fun b e => by rw [e]; exact hp) _ _ p1).kept (Same.kept e2)⟩
/-- l.append(x), where x changes objects -/
theorem ev_appO2 (i : Nat) {a : Addr} (ho : Ev X S o G W (.ref a) W1) (hw1 : ∀ H, W1 H → ∃ xs, H a = some (.lst xs)) (he : Ev X S e G W1 d (OB Hs M S m)) (hm : m[i]? = some (a, .lst l) := by rfl) (hl : l.length ≤ 1000 := by first | decide | omega | simp)
    (hbase : attributeBase o "append" X.env (eval o X.env) = eval o X.env := by rfl)
    (hfew : ((backTo cpos (starEach [e] X.env)).all (fun x => !x.1) && (backToKw cpos (keywordEach [] X.env)).all (fun x => x.1.isSome)
      && decide ([e].length + ([] : List Keyword).length + (if ([] : List Keyword).isEmpty then 0 else 1) < 30)) = true := by rfl)
    (hline : (apos.endLine == cpos.line) = true := by rfl) (hs : starEach [e] X.env = (false, eval e X.env) :: starEach [] X.env := by rfl) (hplain : (backTo cpos (starEach [] X.env)).any (·.1) = false := by rfl) :
    Ev X S (.Call (.Attribute o "append" apos) [e] [] cpos) G W .non (OB Hs M S (m.set i (a, .lst (l ++ [d])))) := fun σ H ty so w Q q =>
  ⟨_, pe_bm PySem.F.plainAttrs_list PySem.F.slot_list_append PySem.F.type_list_append mt_append we_pe (pa_cons we_pe pa_nil hs) hbase hfew hline hs hplain, ho σ H ty so w _ fun x H1 k1 w1 p1 => by
    obtain ⟨xs, hx⟩ := hw1 H1 w1
    cases (show x = .ref a from p1)
    refine ⟨.inl ⟨rfl, xs, SqL.of hx⟩, he σ H1 (ty.kept k1) (so.kept k1) w1 _ fun v H2 k2 w2 p2 => ?_⟩
    obtain ⟨s, ys, e1, r⟩ := w2.get hm
    exact ⟨a, ys, v, rfl, rfl, e1, by rw [r.len]; exact Nat.lt_of_le_of_lt hl (by decide), q _ _ ((k1.trans k2).trans (kept_upd s)) (w2.put hm ⟨ys ++ [v], upd_same, (r.append (DatL.one p2)).kept (kept_upd s)⟩) rfl⟩⟩
end
/-- the end of an __init__ -/
theorem init_end {S S' : Set'} {p : Addr} {H H' : Hp} {ms : Ms} {mk : Addr → List Addr → Ms} {Q : VK} (as : List Addr) (w : OB H (· = p) S' ms H') (hS : ∀ b, S b → S' b) (ha : ∀ a ∈ as, a ≠ p ∧ a ∈ ms.map (·.1)) (hx : ∀ x ∈ ms, x.1 = p ∨ x.1 ∈ as) (em : mk p as = ms)
    (hp : ∀ (as : List Addr) H', (∀ a ∈ as, H a = none) → Kept (· = p) H H' → Ob (wid S (adr (mk p as))) (mk p as) H' → (∀ x ∈ mk p as, x.1 = p ∨ x.1 ∈ as) → Q .non H') : Q .non H' := by
  refine hp as H' (fun b hb => ?_) w.k ?_ (by rw [em]; exact hx)
  · obtain ⟨h1, h2⟩ := ha b hb
    obtain ⟨y, hy, rfl⟩ := List.mem_map.mp h2
    rcases w.f y hy with z | z
    · exact absurd z h1
    · exact z
  · rw [em]
    refine w.o.off (fun b _ z => ?_) fun x hx => .inr (List.mem_map.mpr ⟨x, hx, rfl⟩)
    rcases z with z | z
    · exact hS b z
    · obtain ⟨y, hy, rfl⟩ := List.mem_map.mp z
      exact (w.o.at' y hy).1
section
variable {B : Bs} {A : Ad}
def R_svi (A : Ad) (ds : List D) (oc : Option Addr) (mk : Addr → List Addr → Ms) : Prop :=
  (∃ d h, ds = [d, h] ∧ nr d = true ∧ smallD d ∧ textD d = false ∧ oc = some A.text) ∨
  (∃ x h, ds = [.str x, h] ∧ x.length ≤ 1000 ∧ x.cps.toList.all inSG = true ∧ nr h = true ∧ numB h 1 8 = false ∧ oc = some A.hand) ∨
  (∃ x n, ds = [.str (Sx x), .int (n : Nat)] ∧ x.length ≤ 1000 ∧ x.all inSG = true ∧ 1 ≤ n ∧ n ≤ 8 ∧ oc = none ∧ mk = fun p as => svM A p (as.getD 0 0) (as.getD 1 0) ⟨x, [], List.replicate n 0⟩)
theorem ok_sv_init (T : Txt B A) : Kmi B A.srv 3 2 (R_svi A) := by
  obtain ⟨f, fd, F, m⟩ := T.m_Server_init
  obtain ⟨u, hM⟩ := T.most
  have k_need_text := ok_need_text T
  have k_is_number := ok_is_number T
  refine kmi_of F ⟨T.srv.mki, m.at_, m.fn, T.srv.kp⟩ (F.binds fun _ _ _ _ _ _ us hl => match us, hl with | [_, _, _], _ => rfl) c_Server_init rfl (by decide) fun cdv A' outer s H Q E hr S p ds oc mk hl hR np hp => ?_
  have nd := c_Server_init.nd
  rcases hR with ⟨d, h, rfl, h1, h2, h3, rfl⟩ | ⟨x, h, rfl, h1, h2, h3, h4, rfl⟩ | ⟨x, n, rfl, h1, h2, h3, h4, rfl, rfl⟩
  · exact blk_exprX tk_cx (evx_call k_need_text hr (eva_cons (ev_name 1) eva_nil) stb_OB ⟨_, rfl, h1, h2, by rw [h3]; rfl⟩) fun H' so w => hp H' w.k
  · refine blk_expr (ev_call k_need_text hr (eva_cons (ev_name 1) eva_nil) stb_OB ⟨.str x, rfl, rfl, h1, by rw [if_pos]; exact h2⟩) ?_
    refine blk_if (et_is (et_not (et_val (ev_call k_is_number hr (eva_cons (ev_name 2) (eva_cons ev_int (eva_cons (ev_glob (v := .int 8) (d := .int 8) hM ⟨_, rfl⟩ (fun _ _ => rfl)) eva_nil))) stb_OB ⟨_, _, _, rfl, h3, rfl⟩))) (congrArg Bool.not h4)) (fun _ => ?_) (fun h => Bool.noConfusion h)
    exact blk_raise tk_cx T.hand fun H' so w => hp H' w.k
  · have hxs : (Sx x).length ≤ 1000 := by
      rw [sx_len]
      exact h1
    refine blk_expr (ev_call k_need_text hr (eva_cons (ev_name 1) eva_nil) stb_OB ⟨.str (Sx x), rfl, rfl, hxs, by
      rw [if_pos]
      show (Sx x).cps.toList.all inSG = true
      rw [sx_codes]
      exact h2⟩) ?_
    refine blk_if (et_is (et_not (et_val (ev_call k_is_number hr (eva_cons (ev_name 2) (eva_cons ev_int (eva_cons (ev_glob (v := .int 8) (d := .int 8) hM ⟨_, rfl⟩ (fun _ _ => rfl)) eva_nil))) stb_OB ⟨_, _, _, rfl, rfl, rfl⟩))) (show (!numB (.int (n : Int)) 1 8) = false by rw [numB_in (by omega) (by omega)]; rfl)) (fun h => Bool.noConfusion h) (fun _ => blk_on ?_)
    refine blk_fN 0 (ev_name 1) (ev_name 0) T.srv.cl (T.srv.nf _ (by decide)) ?_
    refine blk_fNF 0 (evf_nil stb_OB) (fun _ w => w) (fun S m => ev_name 0) T.srv.cl (T.srv.nf _ (by decide)) (fun t nt => ?_)
    have eq0 : givenD n (fun _ => true) (fun _ => D.int 0) = (List.replicate n (0 : Int)).map D.int := by
      rw [givenD_all, List.map_replicate]
      exact List.map_const' .. |>.trans (by rw [List.length_range])
    refine blk_fNF 0 (od := .lst ((List.replicate n (0 : Int)).map D.int)) (evf_flat (G' := [none, none, some (.int (n : Int)), none]) (by
        rw [List.map_replicate, List.all_replicate]
        simp [flatB]) rfl (fun i d e => match i, e with
        | 2, e => by
          cases e
          exact ⟨rfl, rfl⟩
        | 0, e => by cases e
        | 1, e => by cases e
        | 3, e => by cases e
        | i + 4, e => by simp at e) (fun H0 w0 S' => ev_is (ev_lc (own := [("hand", 3)]) (g := gName 3) (fun _ => true) (fun _ => D.int 0) (ei_rng1 (eva_cons (ev_name 2) eva_nil) (by omega) T.zrange) (stb_and stb_OB stb_same) (by omega) (blkOk_by (N := n_Server_init) (sc := defScope s_Server_init) (by decide +kernel)) tgt_name (fun _ _ => trivial)
      (fun _ _ _ _ _ => pg_name nd rfl (Or.inl rfl)) (fun i H1 S' s H2 C cl fp hi w sub => ⟨ets_nil, fun _ => ev_int⟩) nd) (congrArg D.lst eq0))) (fun _ w => w) (fun S m => ev_name 0) T.srv.cl (T.srv.nf _ (by decide)) (fun q nq => ?_)
    refine blk_nil fun σ H' t' so w => ?_
    have htp : ¬ t = p := fun z => nt (.inr z)
    have hqp : ¬ q = p := fun z => nq (.inl (.inr z))
    refine init_end (mk := fun p as => svM A p (as.getD 0 0) (as.getD 1 0) ⟨x, [], List.replicate n 0⟩) [t, q] w (fun b z => .inl (.inl (.inl z))) (fun a ha => ?_) (fun y hy => ?_) rfl hp
    · rcases List.mem_cons.mp ha with rfl | ha
      · exact ⟨htp, List.mem_cons_of_mem _ List.mem_cons_self⟩
      · rw [List.mem_singleton] at ha
        subst ha
        exact ⟨hqp, List.mem_cons_of_mem _ (List.mem_cons_of_mem _ List.mem_cons_self)⟩
    · have hy' : y ∈ svM A p t q ⟨x, [], List.replicate n 0⟩ := hy
      unfold svM at hy'
      simp only [List.mem_cons, List.not_mem_nil, or_false] at hy'
      rcases hy' with rfl | rfl | rfl
      · exact .inl rfl
      · exact .inr (by simp)
      · exact .inr (by simp)

/-! ### the hand -/
structure HdS where
  own : Int
  held : List Nat
  knows : Int
  serial : Int
  flown : D
  queue : D
abbrev ksH : List Str := ["own", "held", "knows", "serial", "flown", "queue", "kept"]
def hdM (A : Ad) (hd kp : Addr) (x : HdS) (kd : OD) : Ms := [(hd, .ins A.hnd ksH [.int x.own, .str (Sx x.held), .int x.knows, .int x.serial, x.flown, x.queue, .ref kp]), (kp, kd)]
def R_hdi (A : Ad) (ds : List D) (oc : Option Addr) (mk : Addr → List Addr → Ms) : Prop :=
  (∃ d h, ds = [d, h] ∧ nr d = true ∧ numB d 0 7 = false ∧ oc = some A.hand) ∨
  (∃ (i : Int) (d : D), ds = [.int i, d] ∧ 0 ≤ i ∧ i ≤ 7 ∧ nr d = true ∧ smallD d ∧ textD d = false ∧ oc = some A.text) ∨
  (∃ (i : Int) (x : List Nat), ds = [.int i, .str (Sx x)] ∧ 0 ≤ i ∧ i ≤ 7 ∧ x.length ≤ 1000 ∧ x.all inSG = true ∧ oc = none ∧ mk = fun p as => hdM A p (as.getD 0 0) ⟨i, x, 0, 0, .non, .non⟩ .dk0)
theorem ok_hd_init (T : Txt B A) : Kmi B A.hnd 3 2 (R_hdi A) := by
  obtain ⟨f, fd, F, m⟩ := T.m_Hand_init
  obtain ⟨u, hM⟩ := T.most
  have k_need_text := ok_need_text T
  have k_is_number := ok_is_number T
  refine kmi_of F ⟨T.hnd.mki, m.at_, m.fn, T.hnd.kp⟩ (F.binds fun _ _ _ _ _ _ us hl => match us, hl with | [_, _, _], _ => rfl) c_Hand_init rfl (by decide) fun cdv A' outer s H Q E hr S p ds oc mk hl hR np hp => ?_
  have nd := c_Hand_init.nd
  rcases hR with ⟨d, h, rfl, h1, h2, rfl⟩ | ⟨i, d, rfl, h1, h2, h3, h4, h5, rfl⟩ | ⟨i, x, rfl, h1, h2, h3, h4, rfl, rfl⟩
  · refine blk_if (et_is (et_not (et_val (ev_call k_is_number hr (eva_cons (ev_name 1) (eva_cons ev_int (eva_cons (ev_bin (ev_glob (v := .int 8) (d := .int 8) hM ⟨_, rfl⟩ (fun _ _ => rfl)) ev_int (by walk_at "op") stb_OB) eva_nil))) stb_OB ⟨_, _, _, rfl, h1, rfl⟩))) (congrArg Bool.not h2)) (fun _ => ?_) (fun h => Bool.noConfusion h)
    exact blk_raise tk_cx T.hand fun H' so w => hp H' w.k
  · refine blk_if (et_is (et_not (et_val (ev_call k_is_number hr (eva_cons (ev_name 1) (eva_cons ev_int (eva_cons (ev_bin (ev_glob (v := .int 8) (d := .int 8) hM ⟨_, rfl⟩ (fun _ _ => rfl)) ev_int (by walk_at "op") stb_OB) eva_nil))) stb_OB ⟨_, _, _, rfl, rfl, rfl⟩))) (show (!numB (.int i) 0 (8 - 1)) = false by rw [numB_in h1 (by omega)]; rfl)) (fun h => Bool.noConfusion h) (fun _ => blk_on ?_)
    exact blk_exprX tk_cx (evx_call k_need_text hr (eva_cons (ev_name 2) eva_nil) stb_OB ⟨_, rfl, h3, h4, by rw [h5]; rfl⟩) fun H' so w => hp H' w.k
  · have hxs : (Sx x).length ≤ 1000 := by
      rw [sx_len]
      exact h3
    refine blk_if (et_is (et_not (et_val (ev_call k_is_number hr (eva_cons (ev_name 1) (eva_cons ev_int (eva_cons (ev_bin (ev_glob (v := .int 8) (d := .int 8) hM ⟨_, rfl⟩ (fun _ _ => rfl)) ev_int (by walk_at "op") stb_OB) eva_nil))) stb_OB ⟨_, _, _, rfl, rfl, rfl⟩))) (show (!numB (.int i) 0 (8 - 1)) = false by rw [numB_in h1 (by omega)]; rfl)) (fun h => Bool.noConfusion h) (fun _ => blk_on ?_)
    refine blk_expr (ev_call k_need_text hr (eva_cons (ev_name 2) eva_nil) stb_OB ⟨.str (Sx x), rfl, rfl, hxs, by
      rw [if_pos]
      show (Sx x).cps.toList.all inSG = true
      rw [sx_codes]
      exact h4⟩) ?_
    refine blk_fN 0 (ev_name 1) (ev_name 0) T.hnd.cl (T.hnd.nf _ (by decide)) ?_
    refine blk_fN 0 (ev_name 2) (ev_name 0) T.hnd.cl (T.hnd.nf _ (by decide)) ?_
    refine blk_fN 0 ev_int (ev_name 0) T.hnd.cl (T.hnd.nf _ (by decide)) ?_
    refine blk_fN 0 ev_int (ev_name 0) T.hnd.cl (T.hnd.nf _ (by decide)) ?_
    refine blk_fN 0 ev_non (ev_name 0) T.hnd.cl (T.hnd.nf _ (by decide)) ?_
    refine blk_fN 0 ev_non (ev_name 0) T.hnd.cl (T.hnd.nf _ (by decide)) ?_
    refine blk_fNF 0 (evf_dict stb_OB) (fun _ w => w) (fun S m => ev_name 0) T.hnd.cl (T.hnd.nf _ (by decide)) (fun t nt => ?_)
    refine blk_nil fun σ H' t' so w => ?_
    have htp : ¬ t = p := fun z => nt (.inr z)
    refine init_end (mk := fun p as => hdM A p (as.getD 0 0) ⟨i, x, 0, 0, .non, .non⟩ .dk0) [t] w (fun b z => .inl (.inl z)) (fun a ha => ?_) (fun y hy => ?_) rfl hp
    · rw [List.mem_singleton] at ha
      subst ha
      exact ⟨htp, List.mem_cons_of_mem _ List.mem_cons_self⟩
    · have hy' : y ∈ hdM A p t ⟨i, x, 0, 0, .non, .non⟩ .dk0 := hy
      unfold hdM at hy'
      simp only [List.mem_cons, List.not_mem_nil, or_false] at hy'
      rcases hy' with rfl | rfl
      · exact .inl rfl
      · exact .inr (by simp)
def R_hdtext (A : Ad) (m : Ms) (ds : List D) (r : Res) : Prop := ∃ hd kp x, m = hdM A hd kp x .dk0 ∧ ds = [.ref hd] ∧ r = .ok (.str (Sx x.held))
theorem ok_hd_text (T : Txt B A) : Kmq B A.hnd "text" 1 1 (R_hdtext A) := by
  obtain ⟨f, fd, F, m⟩ := T.m_Hand_text
  refine kmq_of F m (F.binds fun _ _ _ _ _ _ us hl => match us, hl with | [_], _ => rfl) c_Hand_text rfl (by decide) fun cdv A' outer s H Q E hr S m ds r hl hR hp => ?_
  obtain ⟨hd, kp, x, rfl, rfl, rfl⟩ := hR
  exact blk_retR hp (ev_fQ (m := hdM A hd kp x .dk0) 0 1 (fun _ w => w.2) (ev_name 0) T.hnd.cl (T.hnd.nf _ (by decide))) rfl fun _ w => w.1
def R_hdseen (A : Ad) (m : Ms) (ds : List D) (r : Res) : Prop := ∃ hd kp x, m = hdM A hd kp x .dk0 ∧ ds = [.ref hd] ∧ r = .ok (.int x.knows)
theorem ok_hd_seen (T : Txt B A) : Kmq B A.hnd "seen" 1 1 (R_hdseen A) := by
  obtain ⟨f, fd, F, m⟩ := T.m_Hand_seen
  refine kmq_of F m (F.binds fun _ _ _ _ _ _ us hl => match us, hl with | [_], _ => rfl) c_Hand_seen rfl (by decide) fun cdv A' outer s H Q E hr S m ds r hl hR hp => ?_
  obtain ⟨hd, kp, x, rfl, rfl, rfl⟩ := hR
  exact blk_retR hp (ev_fQ (m := hdM A hd kp x .dk0) 0 2 (fun _ w => w.2) (ev_name 0) T.hnd.cl (T.hnd.nf _ (by decide))) rfl fun _ w => w.1
def R_hdflight (A : Ad) (m : Ms) (ds : List D) (r : Res) : Prop := ∃ hd kp x, m = hdM A hd kp x .dk0 ∧ ds = [.ref hd] ∧ isChN x.flown = true ∧ r = .ok x.flown
theorem ok_hd_flight (T : Txt B A) : Kmq B A.hnd "flight" 2 1 (R_hdflight A) := by
  obtain ⟨f, fd, F, m⟩ := T.m_Hand_flight
  have k_copied := ok_copied T
  refine kmq_of F m (F.binds fun _ _ _ _ _ _ us hl => match us, hl with | [_], _ => rfl) c_Hand_flight rfl (by decide) fun cdv A' outer s H Q E hr S m ds r hl hR hp => ?_
  obtain ⟨hd, kp, x, rfl, rfl, h, rfl⟩ := hR
  exact blk_retR hp (ev_call k_copied hr (eva_cons (ev_fQ (m := hdM A hd kp x .dk0) 0 4 (fun _ w => w.2) (ev_name 0) T.hnd.cl (T.hnd.nf _ (by decide))) eva_nil) stb_QW ⟨_, rfl, h, rfl⟩) rfl fun _ w => w.1
def askedL (x : HdS) : D := .tup [.str askS, .int x.own, .int x.serial, .int x.knows, x.flown]
def R_hdasked (A : Ad) (m : Ms) (ds : List D) (r : Res) : Prop := ∃ hd kp x l, m = hdM A hd kp x .dk0 ∧ ds = [.ref hd] ∧ x.flown = .lst l ∧ r = .ok (askedL x)
theorem ok_hd_asked (T : Txt B A) : Kmq B A.hnd "asked" 1 1 (R_hdasked A) := by
  obtain ⟨f, fd, F, m⟩ := T.m_Hand_asked
  refine kmq_of F m (F.binds fun _ _ _ _ _ _ us hl => match us, hl with | [_], _ => rfl) c_Hand_asked rfl (by decide) fun cdv A' outer s H Q E hr S m ds r hl hR hp => ?_
  obtain ⟨hd, kp, ⟨own, held, kn, se, fl, qu⟩, l, rfl, rfl, h, rfl⟩ := hR
  cases (show fl = .lst l from h)
  have hq : ∀ H', QW H S (hdM A hd kp ⟨own, held, kn, se, .lst l, qu⟩ .dk0) H' → Ob S (hdM A hd kp ⟨own, held, kn, se, .lst l, qu⟩ .dk0) H' := fun _ w => w.2
  exact blk_retR hp (ev_tup (eva_cons ev_str (eva_cons (ev_fQ 0 0 hq (ev_name 0) T.hnd.cl (T.hnd.nf _ (by decide))) (eva_cons (ev_fQ 0 3 hq (ev_name 0) T.hnd.cl (T.hnd.nf _ (by decide))) (eva_cons (ev_fQ 0 2 hq (ev_name 0) T.hnd.cl (T.hnd.nf _ (by decide))) (eva_cons (ev_bt (eva_cons (ev_fQ 0 4 hq (ev_name 0) T.hnd.cl (T.hnd.nf _ (by decide))) eva_nil) co_list_lst stb_QW T.zlist boot_list) eva_nil))))) stb_QW) rfl fun _ w => w.1
end
end Ink
/-! Ink21 -/
/-! The hand: do, nudge, came. -/
namespace Ink
open PySem PySem.Spec PyProof.Rows L2
local macro_rules | `(tactic| walk_at "op") => `(tactic| first
  | exact bo_add | exact bo_sub | exact bo_lt | exact bo_le | exact bo_gt | exact bo_ge | exact bo_eqI | exact bo_neI | exact bo_eqS | exact bo_neS | exact bo_in2 | exact bo_eq | exact bo_ne)
local macro_rules | `(tactic| walk_at "ix") => `(tactic| first | exact io_tup rfl | exact io_lst rfl)
section
variable {B : Bs} {A : Ad}
def R_hdflies (A : Ad) (m : Ms) (ds : List D) (r : Res) (m' : Ms) : Prop := ∃ hd kp own held kn se fl qu l, m = hdM A hd kp ⟨own, held, kn, se, fl, qu⟩ .dk0 ∧ ds = [.ref hd, .lst l] ∧ r = .ok (.lst [askedL ⟨own, held, kn, se + 1, .lst l, qu⟩]) ∧ m' = hdM A hd kp ⟨own, held, kn, se + 1, .lst l, qu⟩ .dk0
theorem ok_hd_flies (T : Txt B A) : Kmo B A.hnd "flies" 2 2 (R_hdflies A) := by
  obtain ⟨f, fd, F, m⟩ := T.m_Hand_flies
  have k_asked := ok_hd_asked T
  refine kmo_of F m (F.binds fun _ _ _ _ _ _ us hl => match us, hl with | [_, _], _ => rfl) c_Hand_flies rfl (by decide) fun cdv A' outer s H Q E hr S m ds r m' hl hR hS hp => ?_
  obtain ⟨hd, kp, own, held, kn, se, fl, qu, l, rfl, rfl, rfl, rfl⟩ := hR
  refine blk_fO 0 4 (ev_name 1) (ev_name 0) T.hnd.cl (T.hnd.nf _ (by decide)) ?_
  refine blk_fO 0 3 (ev_bin (ev_fO 0 3 (ev_name 0) T.hnd.cl (T.hnd.nf _ (by decide))) ev_int (by walk_at "op") stb_OB) (ev_name 0) T.hnd.cl (T.hnd.nf _ (by decide)) ?_
  exact blk_retO hp (ev_lst (eva_cons (ev_meth0Q (m := hdM A hd kp ⟨own, held, kn, se + 1, .lst l, qu⟩ .dk0) 0 (fun _ w => w.o) stb_OB k_asked T.hnd.cl hr (ev_name 0) ⟨hd, kp, _, l, rfl, rfl, rfl, rfl⟩) eva_nil) stb_OB) rfl
def R_hddo (A : Ad) (m : Ms) (ds : List D) (r : Res) (m' : Ms) : Prop := ∃ hd kp own held kn se fl d, m = hdM A hd kp ⟨own, held, kn, se, fl, .non⟩ .dk0 ∧ ds = [.ref hd, d] ∧ held.all inSG = true ∧ held.length ≤ 100 ∧ okCh d = true ∧
  ((changeD d = false ∧ r = .exc A.change ∧ m' = m) ∨ (∃ l, d = .lst l ∧ changeD d = true ∧ ((doneF held l = none ∧ r = .exc A.fit ∧ m' = m) ∨
    (∃ y, doneF held l = some y ∧ ((fl = .non ∧ r = .ok (.lst [askedL ⟨own, y, kn, se + 1, d, .non⟩]) ∧ m' = hdM A hd kp ⟨own, y, kn, se + 1, d, .non⟩ .dk0) ∨
      (∃ l0, fl = .lst l0 ∧ r = .ok (.lst []) ∧ m' = hdM A hd kp ⟨own, y, kn, se, fl, d⟩ .dk0))))))
theorem doneR_lst {x : List Nat} {l : List D} (h : changeD (.lst l) = true) : doneR A x (.lst l) = (match doneF x l with
    | some y => .ok (.str (Sx y))
    | none => .exc A.fit) := by
  unfold doneR
  rw [if_pos h]
  rfl
theorem ok_hd_do (T : Txt B A) : Kmo B A.hnd "do" 5 2 (R_hddo A) := by
  obtain ⟨f, fd, F, m⟩ := T.m_Hand_do
  have k_done := ok_done T
  have k_flies := ok_hd_flies T
  refine kmo_of F m (F.binds fun _ _ _ _ _ _ us hl => match us, hl with | [_, _], _ => rfl) c_Hand_do rfl (by decide) fun cdv A' outer s H Q E hr S m ds r m' hl hR hS hp => ?_
  obtain ⟨hd, kp, own, held, kn, se, fl, d, rfl, rfl, hsg, hlen, hok, hc⟩ := hR
  rcases hc with ⟨hc, rfl, rfl⟩ | ⟨l, rfl, hc, ⟨hd1, rfl, rfl⟩ | ⟨y, hy, hfl⟩⟩
  · refine blk_fldX tk_cx (evx_call k_done hr (eva_cons (ev_fO 0 1 (ev_name 0) T.hnd.cl (T.hnd.nf _ (by decide))) (eva_cons (ev_name 1) eva_nil)) stb_OB ⟨held, d, rfl, hsg, hlen, hok, ?_⟩) fun H' so w => hp H' w.k w.o
    unfold doneR
    rw [hc]
    rfl
  · refine blk_fldX tk_cx (evx_call k_done hr (eva_cons (ev_fO 0 1 (ev_name 0) T.hnd.cl (T.hnd.nf _ (by decide))) (eva_cons (ev_name 1) eva_nil)) stb_OB ⟨held, .lst l, rfl, hsg, hlen, hok, ?_⟩) fun H' so w => hp H' w.k w.o
    rw [doneR_lst hc, hd1]
  · refine blk_fO 0 1 (d := .str (Sx y)) (ev_call k_done hr (eva_cons (ev_fO 0 1 (ev_name 0) T.hnd.cl (T.hnd.nf _ (by decide))) (eva_cons (ev_name 1) eva_nil)) stb_OB ⟨held, .lst l, rfl, hsg, hlen, hok, by rw [doneR_lst hc, hy]⟩) (ev_name 0) T.hnd.cl (T.hnd.nf _ (by decide)) ?_
    rcases hfl with ⟨rfl, rfl, rfl⟩ | ⟨l0, rfl, rfl, rfl⟩
    · refine blk_if (et_cmp (ev_fO 0 4 (ev_name 0) T.hnd.cl (T.hnd.nf _ (by decide))) ev_non bo_isN_non stb_OB) (fun _ => ?_) (fun h => Bool.noConfusion h)
      exact blk_retO hp (ev_methO [] [] (hdM A hd kp ⟨own, y, kn, se, .non, .non⟩ .dk0) (hdM A hd kp ⟨own, y, kn, se + 1, .lst l, .non⟩ .dk0) 0 k_flies T.hnd.cl hr (ev_name 0) (eva_cons (ev_bt (eva_cons (ev_name 1) eva_nil) co_list_lst stb_OB T.zlist boot_list) eva_nil) ⟨hd, kp, _, _, _, _, _, _, _, rfl, rfl, rfl, rfl⟩) rfl
    · refine blk_if (et_cmp (ev_fO 0 4 (ev_name 0) T.hnd.cl (T.hnd.nf _ (by decide))) ev_non bo_isN_lst stb_OB) (fun h => Bool.noConfusion h) (fun _ => blk_on ?_)
      refine blk_if (et_cmp (ev_fO 0 5 (ev_name 0) T.hnd.cl (T.hnd.nf _ (by decide))) ev_non bo_isN_non stb_OB) (fun _ => ?_) (fun h => Bool.noConfusion h)
      refine blk_fO 0 5 (ev_bt (eva_cons (ev_name 1) eva_nil) co_list_lst stb_OB T.zlist boot_list) (ev_name 0) T.hnd.cl (T.hnd.nf _ (by decide)) (blk_on ?_)
      exact blk_retO hp (ev_lst eva_nil stb_OB) rfl
/-! nudge -/
def nudgeL (x : HdS) : List D := match x.flown with
  | .lst _ => [.tup [.str againS, .int x.own, .int x.knows], askedL x]
  | _ => [.tup [.str againS, .int x.own, .int x.knows]]
def R_hdnudge (A : Ad) (m : Ms) (ds : List D) (r : Res) (m' : Ms) : Prop := ∃ hd kp x, m = hdM A hd kp x .dk0 ∧ ds = [.ref hd] ∧ isChN x.flown = true ∧ m' = m ∧ r = .ok (.lst (nudgeL x))
theorem ok_hd_nudge (T : Txt B A) : Kmo B A.hnd "nudge" 2 1 (R_hdnudge A) := by
  obtain ⟨f, fd, F, m⟩ := T.m_Hand_nudge
  have k_asked := ok_hd_asked T
  refine kmo_of F m (F.binds fun _ _ _ _ _ _ us hl => match us, hl with | [_], _ => rfl) c_Hand_nudge rfl (by decide) fun cdv A' outer s H Q E hr S m ds r m' hl hR hS hp => ?_
  obtain ⟨hd, kp, ⟨own, held, kn, se, fl, qu⟩, rfl, rfl, hfl, rfl, rfl⟩ := hR
  have nd := c_Hand_nudge.nd
  have fld : ∀ {H0 : Hp} {i : Nat} {fn : Str} {d : D} {p1 p2 : Pos}, ksH[i]? = some fn → fn ∈ (["own", "held", "knows", "serial", "flown", "queue", "kept"] : List Str) → [D.int own, .str (Sx held), .int kn, .int se, fl, qu, .ref kp][i]? = some d → attributeBase (.Name "self" p1) fn (cx B n_Hand_nudge "Hand.nudge" s_Hand_nudge f cdv A' outer s H E).env (eval (.Name "self" p1) (cx B n_Hand_nudge "Hand.nudge" s_Hand_nudge f cdv A' outer s H E).env) = eval (.Name "self" p1) (cx B n_Hand_nudge "Hand.nudge" s_Hand_nudge f cdv A' outer s H E).env →
      Ev (cx B n_Hand_nudge "Hand.nudge" s_Hand_nudge f cdv A' outer s H E) S (.Attribute (.Name "self" p1) fn p2) [some (.ref hd), none] (fun H' => OB H (adr (hdM A hd kp ⟨own, held, kn, se, fl, qu⟩ .dk0)) S (hdM A hd kp ⟨own, held, kn, se, fl, qu⟩ .dk0) H' ∧ Same H0 H') d (fun H' => OB H (adr (hdM A hd kp ⟨own, held, kn, se, fl, qu⟩ .dk0)) S (hdM A hd kp ⟨own, held, kn, se, fl, qu⟩ .dk0) H' ∧ Same H0 H') := fun {H0 i fn d p1 p2} h1 h2 h3 h4 =>
    ev_fQ (m := hdM A hd kp ⟨own, held, kn, se, fl, qu⟩ .dk0) (ks := ksH) (ds := [D.int own, .str (Sx held), .int kn, .int se, fl, qu, .ref kp]) 0 i (fun _ w => w.1.o) (ev_name 0) T.hnd.cl (T.hnd.nf _ h2) rfl h1 h3 h4
  refine blk_setF 1 (evf_disp (fun H0 w => eva_cons (ev_tup (eva_cons ev_str (eva_cons (fld (i := 0) rfl (by decide) rfl rfl) (eva_cons (fld (i := 2) rfl (by decide) rfl rfl) eva_nil))) (stb_and stb_OB stb_same)) eva_nil) stb_OB) (fun a na => ?_) (fun _ w => w) nd
  cases fl with
  | non =>
    refine blk_if (et_cmp (ev_fO 0 4 (ev_name 0) T.hnd.cl (T.hnd.nf _ (by decide))) ev_non bo_notN_non stb_OB) (fun h => Bool.noConfusion h) (fun _ => blk_on ?_)
    exact blk_retL 2 _ hp (ev_name 1) rfl rfl (fun b z => .inl z) hS na
  | lst l =>
    refine blk_if (et_cmp (ev_fO 0 4 (ev_name 0) T.hnd.cl (T.hnd.nf _ (by decide))) ev_non bo_notN_lst stb_OB) (fun _ => ?_) (fun h => Bool.noConfusion h)
    refine blk_expr (ev_appO 2 (ev_name 1) (ev_meth0Q (m := hdM A hd kp ⟨own, held, kn, se, .lst l, qu⟩ .dk0) 0 (fun _ w => w.o.left) stb_OB k_asked T.hnd.cl hr (ev_name 0) ⟨hd, kp, _, l, rfl, rfl, rfl, rfl⟩)) (blk_on ?_)
    exact blk_retL 2 _ hp (ev_name 1) rfl rfl (fun b z => .inl z) hS na
  | bl b => exact absurd hfl Bool.false_ne_true
  | int i => exact absurd hfl Bool.false_ne_true
  | str x => exact absurd hfl Bool.false_ne_true
  | tup l => exact absurd hfl Bool.false_ne_true
  | dct => exact absurd hfl Bool.false_ne_true
  | ref a => exact absurd hfl Bool.false_ne_true
  | ty n => exact absurd hfl Bool.false_ne_true
/-! came -/
def R_hdown (A : Ad) (m : Ms) (ds : List D) (r : Res) (m' : Ms) : Prop := ∃ hd kp own held kn se fl, m = hdM A hd kp ⟨own, held, kn, se, fl, .non⟩ .dk0 ∧ ds = [.ref hd] ∧ r = .ok (.lst []) ∧ m' = hdM A hd kp ⟨own, held, kn + 1, se, .non, .non⟩ .dk0
theorem ok_hd_own (T : Txt B A) : Kmo B A.hnd "own_taken" 1 1 (R_hdown A) := by
  obtain ⟨f, fd, F, m⟩ := T.m_Hand_own_taken
  refine kmo_of F m (F.binds fun _ _ _ _ _ _ us hl => match us, hl with | [_], _ => rfl) c_Hand_own_taken rfl (by decide) fun cdv A' outer s H Q E hr S m ds r m' hl hR hS hp => ?_
  obtain ⟨hd, kp, own, held, kn, se, fl, rfl, rfl, rfl, rfl⟩ := hR
  refine blk_fO 0 2 (ev_bin (ev_fO 0 2 (ev_name 0) T.hnd.cl (T.hnd.nf _ (by decide))) ev_int (by walk_at "op") stb_OB) (ev_name 0) T.hnd.cl (T.hnd.nf _ (by decide)) ?_
  refine blk_fO 0 4 ev_non (ev_name 0) T.hnd.cl (T.hnd.nf _ (by decide)) ?_
  refine blk_if (et_cmp (ev_fO 0 5 (ev_name 0) T.hnd.cl (T.hnd.nf _ (by decide))) ev_non bo_isN_non stb_OB) (fun _ => ?_) (fun h => Bool.noConfusion h)
  exact blk_retO hp (ev_lst eva_nil stb_OB) rfl
/-- how a change of another hand comes through what is in flight -/
def Thru (ch fl ch' fl' : D) : Prop := (fl = .non ∧ ch' = ch ∧ fl' = .non) ∨ (ch = .lst row1 ∧ fl = .lst row2 ∧ ch' = .lst [putP vS, keepP 6] ∧ fl' = .lst nrow2)
def R_hdoth (A : Ad) (m : Ms) (ds : List D) (r : Res) (m' : Ms) : Prop := ∃ hd kp own held kn se fl ch l fl' y, m = hdM A hd kp ⟨own, held, kn, se, fl, .non⟩ .dk0 ∧ ds = [.ref hd, ch] ∧ held.all inSG = true ∧ held.length ≤ 100 ∧ Thru ch fl (.lst l) fl' ∧ okCh (.lst l) = true ∧ changeD (.lst l) = true ∧ doneF held l = some y ∧
  r = .ok (.lst l) ∧ m' = hdM A hd kp ⟨own, y, kn + 1, se, fl', .non⟩ .dk0
theorem ok_hd_others (T : Txt B A) : Kmo B A.hnd "others_taken" 6 2 (R_hdoth A) := by
  obtain ⟨f, fd, F, m⟩ := T.m_Hand_others_taken
  have k_passed := ok_passed T
  have k_done := ok_done T
  refine kmo_of F m (F.binds fun _ _ _ _ _ _ us hl => match us, hl with | [_, _], _ => rfl) c_Hand_others_taken rfl (by decide) fun cdv A' outer s H Q E hr S m ds r m' hl hR hS hp => ?_
  have nd := c_Hand_others_taken.nd
  obtain ⟨hd, kp, own, held, kn, se, fl, ch, l, fl', y, rfl, rfl, hsg, hlen, ht, hok, hch, hy, rfl, rfl⟩ := hR
  refine blk_set 2 (ev_fO 0 4 (ev_name 0) T.hnd.cl (T.hnd.nf _ (by decide))) ?_ nd
  refine blk_set 3 (ev_fO 0 5 (ev_name 0) T.hnd.cl (T.hnd.nf _ (by decide))) ?_ nd
  have fin : Blk (cx B n_Hand_others_taken "Hand.others_taken" s_Hand_others_taken f cdv A' outer s H E) S ((defBody s_Hand_others_taken).drop 4) { nx := fun _ H' => Q .non H', rt := Q } [some (.ref hd), some (.lst l), some fl', some .non] (OB H (adr (hdM A hd kp ⟨own, held, kn, se, fl, .non⟩ .dk0)) S (hdM A hd kp ⟨own, held, kn, se, fl, .non⟩ .dk0)) := by
    refine blk_fO 0 1 (d := .str (Sx y)) (ev_call k_done hr (eva_cons (ev_fO 0 1 (ev_name 0) T.hnd.cl (T.hnd.nf _ (by decide))) (eva_cons (ev_name 1) eva_nil)) stb_OB ⟨held, .lst l, rfl, hsg, hlen, hok, by rw [doneR_lst hch, hy]⟩) (ev_name 0) T.hnd.cl (T.hnd.nf _ (by decide)) ?_
    refine blk_fO 0 4 (ev_name 2) (ev_name 0) T.hnd.cl (T.hnd.nf _ (by decide)) ?_
    refine blk_fO 0 5 (ev_name 3) (ev_name 0) T.hnd.cl (T.hnd.nf _ (by decide)) ?_
    refine blk_fO 0 2 (ev_bin (ev_fO 0 2 (ev_name 0) T.hnd.cl (T.hnd.nf _ (by decide))) ev_int (by walk_at "op") stb_OB) (ev_name 0) T.hnd.cl (T.hnd.nf _ (by decide)) ?_
    exact blk_retO hp (ev_name 1) rfl
  rcases ht with ⟨rfl, rfl, rfl⟩ | ⟨rfl, rfl, e, rfl⟩
  · refine blk_if (et_cmp (ev_name 2) ev_non bo_notN_non stb_OB) (fun h => Bool.noConfusion h) (fun _ => blk_on ?_)
    refine blk_if (et_cmp (ev_name 3) ev_non bo_notN_non stb_OB) (fun h => Bool.noConfusion h) (fun _ => blk_on ?_)
    exact fin
  · cases e
    refine blk_if (et_cmp (ev_name 2) ev_non bo_notN_lst stb_OB) (fun _ => ?_) (fun h => Bool.noConfusion h)
    refine blk_set2 1 2 (ev_call k_passed hr (eva_cons (ev_name 1) (eva_cons (ev_name 2) eva_nil)) stb_OB (.inr ⟨rfl, rfl⟩)) (blk_on ?_) nd
    refine blk_if (et_cmp (ev_name 3) ev_non bo_notN_non stb_OB) (fun h => Bool.noConfusion h) (fun _ => blk_on ?_)
    exact fin
end
end Ink
/-! Ink22 -/
/-! The hand: came. -/
namespace Ink
open PySem PySem.Spec PyProof.Rows L2
local macro_rules | `(tactic| walk_at "op") => `(tactic| first
  | exact bo_add | exact bo_sub | exact bo_lt | exact bo_le | exact bo_gt | exact bo_ge | exact bo_eqI | exact bo_neI | exact bo_eqS | exact bo_neS | exact bo_in2 | exact bo_eq | exact bo_ne)
local macro_rules | `(tactic| walk_at "ix") => `(tactic| first | exact io_tup rfl | exact io_lst rfl)
theorem OB.shrink {Hs : Hp} {M S S2 : Set'} {m' mr : Ms} {H : Hp} (w : OB Hs M S2 (m' ++ mr) H) (h1 : ∀ b, S b → S2 b) (h2 : ∀ x ∈ m', S x.1) : OB Hs M S m' H := ⟨w.k, fun x hx => w.f x (List.mem_append_left _ hx), w.o.back0 h1 h2⟩
section
variable {B : Bs} {A : Ad}
def tkLt (own n w : Int) (ch : D) : List D := [.str tookS, .int own, .int n, .int w, ch]
def R_hdcame (A : Ad) (m : Ms) (ds : List D) (r : Res) (m' : Ms) : Prop := ∃ hd kp own held kn se fl d, m = hdM A hd kp ⟨own, held, kn, se, fl, .non⟩ .dk0 ∧ ds = [.ref hd, d] ∧
  ((okTk d = true ∧ tookD d own = false ∧ r = .exc A.letter ∧ m' = m) ∨
   (∃ w c, d = .tup (tkLt own (kn + 1) w (.lst c)) ∧ 0 ≤ w ∧ w ≤ 7 ∧ 0 ≤ kn ∧ okCh (.lst c) = true ∧ changeD (.lst c) = true ∧
    ((w = own ∧ fl = .non ∧ r = .exc A.letter ∧ m' = m) ∨
     (w = own ∧ (∃ l0, fl = .lst l0) ∧ r = .ok (.tup [.lst [], .lst []]) ∧ m' = hdM A hd kp ⟨own, held, kn + 1, se, .non, .non⟩ .dk0) ∨
     (w ≠ own ∧ ∃ l fl' y, held.all inSG = true ∧ held.length ≤ 100 ∧ Thru (.lst c) fl (.lst l) fl' ∧ okCh (.lst l) = true ∧ changeD (.lst l) = true ∧ doneF held l = some y ∧ r = .ok (.tup [.lst [], .lst [.lst l]]) ∧ m' = hdM A hd kp ⟨own, y, kn + 1, se, fl', .non⟩ .dk0))))
theorem tookD_mk {own n w : Int} {ch : D} (h1 : 1 ≤ n) (h2 : 0 ≤ w) (h3 : w ≤ 7) (h4 : changeD ch = true) : tookD (.tup (tkLt own n w ch)) own = true := by
  unfold tkLt
  rw [tookD_eq, decide_eq_true rfl, numB_in h2 h3, h4]
  show (true && (true && (decide (own = own) && (true && (decide (0 < n) && (true && true)))))) = true
  rw [decide_eq_true rfl, decide_eq_true (show 0 < n by omega)]
  rfl
theorem hd_sub {S : Set'} {hd kp : Addr} {x y : HdS} {kd ke : OD} (h : ∀ z ∈ hdM A hd kp x kd, S z.1) : ∀ z ∈ hdM A hd kp y ke, S z.1 := fun z hz => by
  unfold hdM at hz
  simp only [List.mem_cons, List.not_mem_nil, or_false] at hz
  rcases hz with rfl | rfl
  · exact (h _ List.mem_cons_self : S hd)
  · exact (h _ (List.mem_cons_of_mem _ List.mem_cons_self) : S kp)
theorem ok_hd_came (T : Txt B A) : Kmo B A.hnd "came" 7 2 (R_hdcame A) := by
  obtain ⟨f, fd, F, m⟩ := T.m_Hand_came
  have k_is_took := ok_is_took T
  have k_own := ok_hd_own T
  have k_oth := ok_hd_others T
  refine kmo_of F m (F.binds fun _ _ _ _ _ _ us hl => match us, hl with | [_, _], _ => rfl) c_Hand_came rfl (by decide) fun cdv A' outer s H Q E hr S m ds r m' hl hR hS hp => ?_
  have nd := c_Hand_came.nd
  have hu0 := hr.un
  have hu : (cx B n_Hand_came "Hand.came" s_Hand_came f cdv A' outer s H E).A.units + 1 < cLine := by omega
  obtain ⟨hd, kp, own, held, kn, se, fl, d, rfl, rfl, hc⟩ := hR
  rcases hc with ⟨hok, hno, rfl, rfl⟩ | ⟨w, c, rfl, h0, h7, hkn, hok, hch, hc⟩
  · refine blk_if (et_is (et_not (et_val (ev_call k_is_took hr (eva_cons (ev_name 1) (eva_cons (ev_fO 0 0 (ev_name 0) T.hnd.cl (T.hnd.nf _ (by decide))) eva_nil)) stb_OB ⟨_, _, rfl, hok, rfl⟩))) (congrArg Bool.not hno)) (fun _ => ?_) (fun h => Bool.noConfusion h)
    exact blk_raise tk_cx T.letter fun H' so w => hp H' w.k w.o
  · have hok5 : okTk (.tup (tkLt own (kn + 1) w (.lst c))) = true := hok
    refine blk_if (et_is (et_not (et_val (ev_call k_is_took hr (eva_cons (ev_name 1) (eva_cons (ev_fO 0 0 (ev_name 0) T.hnd.cl (T.hnd.nf _ (by decide))) eva_nil)) stb_OB ⟨_, _, rfl, hok5, rfl⟩))) (show (!tookD (.tup (tkLt own (kn + 1) w (.lst c))) own) = false by rw [tookD_mk (by omega) h0 h7 hch]; rfl)) (fun h => Bool.noConfusion h) (fun _ => blk_on ?_)
    by_cases hflight : w = own ∧ fl = .non
    · obtain ⟨rfl, rfl⟩ := hflight
      have hc1 : r = .exc A.letter ∧ m' = hdM A hd kp ⟨w, held, kn, se, .non, .non⟩ .dk0 := by
        rcases hc with ⟨_, _, h1, h2⟩ | ⟨_, ⟨l0, e⟩, _⟩ | ⟨e, _⟩
        · exact ⟨h1, h2⟩
        · cases e
        · exact absurd rfl e
      obtain ⟨rfl, rfl⟩ := hc1
      refine blk_if (et_w (ew_andT (et_is (et_cmp (ev_ix (ev_name 1) ev_int (by walk_at "ix")) (ev_bin (ev_fO 0 2 (ev_name 0) T.hnd.cl (T.hnd.nf _ (by decide))) ev_int (by walk_at "op") stb_OB) (by walk_at "op") stb_OB) (decide_eq_true rfl)) (ew_andT (et_is (et_cmp (ev_ix (ev_name 1) ev_int (by walk_at "ix")) (ev_fO 0 0 (ev_name 0) T.hnd.cl (T.hnd.nf _ (by decide))) (by walk_at "op") stb_OB) (decide_eq_true rfl)) (ew_one_and (et_cmp (ev_fO 0 4 (ev_name 0) T.hnd.cl (T.hnd.nf _ (by decide))) ev_non bo_isN_non stb_OB))))) (fun _ => ?_) (fun h => Bool.noConfusion h)
      exact blk_raise tk_cx T.letter fun H' so w => hp H' w.k w.o
    · -- past the two tests
      have hc2 : ∃ x2 cs, r = .ok (.tup [.lst [], .lst cs]) ∧ m' = hdM A hd kp x2 .dk0 ∧ x2.knows = kn + 1 ∧ ((w = own ∧ (∃ l0, fl = .lst l0) ∧ cs = [] ∧ x2 = ⟨own, held, kn + 1, se, .non, .non⟩) ∨
          (w ≠ own ∧ ∃ l fl' y, held.all inSG = true ∧ held.length ≤ 100 ∧ Thru (.lst c) fl (.lst l) fl' ∧ okCh (.lst l) = true ∧ changeD (.lst l) = true ∧ doneF held l = some y ∧ cs = [.lst l] ∧ x2 = ⟨own, y, kn + 1, se, fl', .non⟩)) := by
        rcases hc with ⟨h1, h2, _⟩ | ⟨h1, h2, h3, h4⟩ | ⟨h1, l, fl', y, a1, a2, a3, a4, a5, a6, h3, h4⟩
        · exact absurd ⟨h1, h2⟩ hflight
        · exact ⟨_, _, h3, h4, rfl, .inl ⟨h1, h2, rfl, rfl⟩⟩
        · exact ⟨_, _, h3, h4, rfl, .inr ⟨h1, l, fl', y, a1, a2, a3, a4, a5, a6, rfl, rfl⟩⟩
      obtain ⟨x2, cs, rfl, rfl, hk2, hc3⟩ := hc2
      refine blk_if (c := false) (W1 := OB H (adr (hdM A hd kp ⟨own, held, kn, se, fl, .non⟩ .dk0)) S (hdM A hd kp ⟨own, held, kn, se, fl, .non⟩ .dk0)) ?_ (fun h => Bool.noConfusion h) (fun _ => blk_on ?_)
      · refine et_w (ew_andT (et_is (et_cmp (ev_ix (ev_name 1) ev_int (by walk_at "ix")) (ev_bin (ev_fO 0 2 (ev_name 0) T.hnd.cl (T.hnd.nf _ (by decide))) ev_int (by walk_at "op") stb_OB) (by walk_at "op") stb_OB) (decide_eq_true rfl)) ?_)
        rcases hc3 with ⟨h1, ⟨l0, rfl⟩, _⟩ | ⟨h1, _⟩
        · exact ew_andT (et_is (et_cmp (ev_ix (ev_name 1) ev_int (by walk_at "ix")) (ev_fO 0 0 (ev_name 0) T.hnd.cl (T.hnd.nf _ (by decide))) (by walk_at "op") stb_OB) (decide_eq_true h1)) (ew_one_and (et_cmp (ev_fO 0 4 (ev_name 0) T.hnd.cl (T.hnd.nf _ (by decide))) ev_non bo_isN_lst stb_OB))
        · exact ew_andF (et_is (et_cmp (ev_ix (ev_name 1) ev_int (by walk_at "ix")) (ev_fO 0 0 (ev_name 0) T.hnd.cl (T.hnd.nf _ (by decide))) (by walk_at "op") stb_OB) (decide_eq_false h1))
      refine blk_if (c := true) (et_w (ew_andT (et_is (et_cmp (ev_ix (ev_name 1) ev_int (by walk_at "ix")) (ev_fO 0 2 (ev_name 0) T.hnd.cl (T.hnd.nf _ (by decide))) (by walk_at "op") stb_OB) (decide_eq_true (show kn < kn + 1 by omega))) (ew_one_and (et_is (et_ninO 1 (od := .dk0) (on := none) hu (ev_ix (ev_name 1) ev_int (by walk_at "ix")) (ev_fO 0 6 (ev_name 0) T.hnd.cl (T.hnd.nf _ (by decide)))) rfl)))) (fun _ => ?_) (fun h => Bool.noConfusion h)
      refine blk_dput 1 (z := kn + 1) hu (ev_tup (eva_cons (ev_ix (ev_name 1) ev_int (by walk_at "ix")) (eva_cons (ev_bt (eva_cons (ev_ix (ev_name 1) ev_int (by walk_at "ix")) eva_nil) co_list_lst stb_OB T.zlist boot_list) eva_nil)) stb_OB) (ev_fO 0 6 (ev_name 0) T.hnd.cl (T.hnd.nf _ (by decide))) (ev_ix (ev_name 1) ev_int (by walk_at "ix")) (blk_on ?_)
      refine blk_setF 2 (evf_nil stb_OB) (fun la hla => ?_) (fun _ w => w) nd
      refine blk_setF 3 (evf_nil stb_OB) (fun ca hca => ?_) (fun _ w => w) nd
      have hS1 : ∀ b, S b → wid (wid S (· = la)) (· = ca) b := fun b z => .inl (.inl z)
      have nla : ¬ S la := hla
      have nca : ¬ S ca := fun z => hca (.inl z)
      refine blk_while (α := Bool) (fun _ => [some (.ref hd), some (.tup (tkLt own (kn + 1) w (.lst c))), some (.ref la), some (.ref ca), none, none]) (fun b => OB H (adr (hdM A hd kp ⟨own, held, kn, se, fl, .non⟩ .dk0)) (wid (wid S (· = la)) (· = ca)) (match b with
        | true => hdM A hd kp ⟨own, held, kn, se, fl, .non⟩ (.dk1 (kn + 1) (.tup [.int w, .lst c])) ++ [(la, .lst []), (ca, .lst [])]
        | false => hdM A hd kp x2 .dk0 ++ [(la, .lst []), (ca, .lst cs)])) (fun b => if b then 1 else 0) true (fun σ H1 t so w => ⟨t, w⟩) (fun b => ?_) po_cx
      match b with
      | true =>
        refine ⟨true, _, et_is (et_inO 1 (od := .dk1 (kn + 1) (.tup [.int w, .lst c])) (on := some (kn + 1)) hu (ev_bin (ev_fO 0 2 (ev_name 0) T.hnd.cl (T.hnd.nf _ (by decide))) ev_int (by walk_at "op") stb_OB) (ev_fO 0 6 (ev_name 0) T.hnd.cl (T.hnd.nf _ (by decide)))) (decide_eq_true rfl), fun _ => ⟨false, by decide, ?_⟩, fun h => Bool.noConfusion h⟩
        refine blk_set2 4 5 (ev_dpop 1 (z := kn + 1) (ev_fO 0 6 (ev_name 0) T.hnd.cl (T.hnd.nf _ (by decide))) (ev_bin (ev_fO 0 2 (ev_name 0) T.hnd.cl (T.hnd.nf _ (by decide))) ev_int (by walk_at "op") stb_OB)) ?_ nd
        rcases hc3 with ⟨h1, ⟨l0, rfl⟩, rfl, rfl⟩ | ⟨h1, l, fl', y, a1, a2, a3, a4, a5, a6, rfl, rfl⟩
        · refine blk_if1 (et_is (et_cmp (ev_name 4) (ev_fO 0 0 (ev_name 0) T.hnd.cl (T.hnd.nf _ (by decide))) (by walk_at "op") stb_OB) (decide_eq_true h1)) (fun _ => ?_) (fun h => Bool.noConfusion h)
          refine blk_expr (ev_extO 2 (ev_name 2) (fun H1 w1 => ?_) (ev_meth0O [] [(la, .lst []), (ca, .lst [])] (hdM A hd kp ⟨own, held, kn, se, .lst l0, .non⟩ .dk0) (hdM A hd kp ⟨own, held, kn + 1, se, .non, .non⟩ .dk0) 0 k_own T.hnd.cl hr (ev_name 0) ⟨hd, kp, _, _, _, _, _, rfl, rfl, rfl, rfl⟩)) ?_
          · obtain ⟨_, vs, e, _⟩ := OB.get w1 (i := 2) (a := la) (o := .lst []) rfl
            exact ⟨vs, e⟩
          · exact blk_nil fun σ H1 t so w => ⟨(t.forget 4).forget 5, so, w⟩
        · refine blk_if1 (et_is (et_cmp (ev_name 4) (ev_fO 0 0 (ev_name 0) T.hnd.cl (T.hnd.nf _ (by decide))) (by walk_at "op") stb_OB) (decide_eq_false h1)) (fun h => Bool.noConfusion h) (fun _ => ?_)
          refine blk_expr (ev_appO2 3 (ev_name 3) (fun H1 w1 => ?_) (ev_methO [] [(la, .lst []), (ca, .lst [])] (hdM A hd kp ⟨own, held, kn, se, fl, .non⟩ .dk0) (hdM A hd kp ⟨own, y, kn + 1, se, fl', .non⟩ .dk0) 0 k_oth T.hnd.cl hr (ev_name 0) (eva_cons (ev_name 5) eva_nil) ⟨hd, kp, _, _, _, _, _, _, l, _, y, rfl, rfl, a1, a2, a3, a4, a5, a6, rfl, rfl⟩)) ?_
          · obtain ⟨_, vs, e, _⟩ := OB.get w1 (i := 3) (a := ca) (o := .lst []) rfl
            exact ⟨vs, e⟩
          · exact blk_nil fun σ H1 t so w => ⟨(t.forget 4).forget 5, so, w⟩
      | false =>
        refine ⟨false, _, et_is (et_inO 1 (od := .dk0) (on := none) hu (ev_bin (ev_fO 0 2 (ev_name 0) T.hnd.cl (T.hnd.nf _ (by decide))) ev_int (by walk_at "op") stb_OB) (ev_fO 0 6 (ev_name 0) T.hnd.cl (T.hnd.nf _ (by decide)))) rfl, fun h => Bool.noConfusion h, fun _ => ?_⟩
        refine blk_shift (S' := S) (G' := [some (.ref hd), some (.tup (tkLt own (kn + 1) w (.lst c))), some (.lst []), some (.lst cs), none, none]) (W' := OB H (adr (hdM A hd kp ⟨own, held, kn, se, fl, .non⟩ .dk0)) S (hdM A hd kp x2 .dk0)) (fun σ H1 t so w => ⟨?_, fun b z => so b (hS1 b z), OB.shrink (mr := [(la, .lst []), (ca, .lst cs)]) w hS1 (hd_sub hS)⟩) ?_
        · have w' : OB H (adr (hdM A hd kp ⟨own, held, kn, se, fl, .non⟩ .dk0)) _ (hdM A hd kp x2 .dk0 ++ [(la, .lst []), (ca, .lst cs)]) H1 := w
          have t1 := (t.off (S' := S) fun b _ z => hS1 b z).thaw (i := 2) rfl (own_dat (w'.get (i := 2) rfl).2 hS1 nla)
          exact t1.thaw (i := 3) rfl (own_dat (w'.get (i := 3) rfl).2 hS1 nca)
        · exact blk_retO hp (ev_tup (eva_cons (ev_name 2) (eva_cons (ev_name 3) eva_nil)) stb_OB) rfl
end
end Ink
/-! Ink23 -/
/-! Within an except suite: the ends of walks, names for a tuple's items. -/
namespace Ink
open PySem PySem.Spec PyProof.Rows L2
section
variable {prog : Program} {w : World} {A : Around} {E : Value → Shared → Prop} {s : Shared} {it l x1 : Addr} {i : Nat} {items : Array Value} {Q : Option Value → Shared → Prop}
theorem stop_h {α : Type} {E' : Value → Shared → Prop} {Q' : α → Shared → Prop} (hot : HotX.HotAt A x1 s.heap)
    (h : ∀ (e : Addr) (oe : Obj) (h' : Heap), h'.get? e = some oe → oe.cls = .type "StopIteration" → (∀ b o, s.heap.get? b = some o → h'.get? b = some o) → E' (.ref e) { s with heap := h' }) :
    wpAny (model prog w) A (newExc (.type "StopIteration") [] >>= fun e => (raiseNew e : Sem α)) Q' E' s := by
  obtain ⟨hh, oh, vh, g1, g2, g3⟩ := hot
  refine wpAny_bind ?_
  simp only [newExc, newTuple]
  refine wpAny_bind (wpAny_newObj_type (wpAny_bind (m := firstArgMember _ _) (wpAny_of_eq (a := Value.none) (by first | rfl | (simp only [firstArgMember]; rfl)) (wpAny_newObj_type ?_ (by size_fits)))) (by size_fits))
  refine HotX.raiseNew_hot ⟨hh, oh, vh, Heap.get?_push_of_some _ (Heap.get?_push_of_some _ g1), g2, g3⟩ (Nat.ne_of_lt (Heap.lt_size (Heap.get?_push_of_some _ g1))) (Heap.get?_push_size _ rfl) rfl (by first | (simp; done) | (simp; omega) | (simp only [Array.size_append]; simp; omega)) ?_
  refine h _ _ _ (Heap.get?_update_self _ (Heap.get?_push_size _ rfl) rfl) rfl fun b o e => ?_
  exact (Heap.get?_update_other _ _ (Nat.ne_of_gt (Heap.lt_size (Heap.get?_push_of_some _ e)))).trans (Heap.get?_push_of_some _ (Heap.get?_push_of_some _ e))
theorem hot_upd {h : Heap} {f : Obj → Obj} {b : Addr} (hot : HotX.HotAt A x1 h) (n : x1 ≠ b) : HotX.HotAt A x1 (h.update b f) := by
  obtain ⟨hh, oh, vh, g1, g2⟩ := hot
  exact ⟨hh, oh, vh, (Heap.get?_update_other _ _ (Ne.symm n)).trans g1, g2⟩
theorem list_end_h (hot : HotX.HotAt A x1 s.heap) (nx : x1 ≠ it) (hit : s.heap.IsListIter it l i) (hl : s.heap.IsList l items) (hx : items[i]? = none)
    (hQ : ∀ h', (∀ b o, b ≠ it → s.heap.get? b = some o → h'.get? b = some o) → Q none { s with heap := h' }) : wpAny (model prog w) A (pyNext (.ref it)) Q E s := by
  obtain ⟨oi, gi, ci, di⟩ := id hit
  obtain ⟨ol, gl, _, n, dl⟩ := hl
  unfold pyNext
  refine wpAny_bind (wpAny_attempt (wpAny_callSpecial?_slot (name := Str.ofString "__next__") hit.typeIs slot_listiter_next (wpAny_call_entry slot_listiter_next hit.typeIs entry_listiter_next ?_ (args_listiter_next _))))
  show wpAny _ _ (field (.ref it) 0 >>= _) _ _ s
  refine wpAny_bind (wpAny_field gi di (x := .ref l) rfl ?_)
  show wpAny _ _ (if (Value.ref l == Value.none) = true then _ else _) _ _ s
  rw [if_neg (show ¬ (Value.ref l == Value.none) = true from fun z => Bool.false_ne_true z)]
  show wpAny _ _ (field (.ref it) 1 >>= _) _ _ s
  refine wpAny_bind (wpAny_field gi di (x := .int i 0) rfl ?_)
  show wpAny _ _ (seqItems? (.ref l) >>= _) _ _ s
  refine wpAny_bind (wpAny_seqItems gl dl ?_)
  simp only [Int.toNat_natCast, hx]
  refine wpAny_bind (wpAny_rule (wpAny_bind (wpAny_setField gi di (by simp) ?_)))
  refine stop_h (s := { s with heap := s.heap.update it _ }) (hot_upd hot nx) fun e oe h' he hc hk => ?_
  refine wpAny_bind (wpAny_isInstance (T := "StopIteration") (b := true) ⟨_, he, hc⟩ isSubtype_stop (wpAny_pure (hQ _ fun b o nb eb => ?_)))
  exact hk b o ((Heap.get?_update_other _ _ (Ne.symm nb)).trans eb)
theorem tup_end_h (hot : HotX.HotAt A x1 s.heap) (nx : x1 ≠ it) (hit : PyProof.Rows.IsTupIter s.heap it l i) (hl : PyProof.Rows.IsTup s.heap l items) (hx : items[i]? = none)
    (hQ : ∀ h', (∀ b o, b ≠ it → s.heap.get? b = some o → h'.get? b = some o) → Q none { s with heap := h' }) : wpAny (model prog w) A (pyNext (.ref it)) Q E s := by
  obtain ⟨oi, gi, ci, di⟩ := id hit
  obtain ⟨ol, gl, _, n, dl⟩ := hl
  unfold pyNext
  refine wpAny_bind (wpAny_attempt (wpAny_callSpecial?_slot (name := Str.ofString "__next__") hit.typeIs slot_tupleiter_next (wpAny_call_entry slot_tupleiter_next hit.typeIs entry_tupleiter_next ?_ (args_tupleiter_next _))))
  show wpAny _ _ (field (.ref it) 0 >>= _) _ _ s
  refine wpAny_bind (wpAny_field gi di (x := .ref l) rfl ?_)
  show wpAny _ _ (if (Value.ref l == Value.none) = true then _ else _) _ _ s
  rw [if_neg (show ¬ (Value.ref l == Value.none) = true from fun z => Bool.false_ne_true z)]
  show wpAny _ _ (field (.ref it) 1 >>= _) _ _ s
  refine wpAny_bind (wpAny_field gi di (x := .int i 0) rfl ?_)
  show wpAny _ _ (seqItems? (.ref l) >>= _) _ _ s
  refine wpAny_bind (wpAny_seqItems gl dl ?_)
  simp only [Int.toNat_natCast, hx]
  refine wpAny_bind (wpAny_rule (wpAny_bind (wpAny_setField gi di (by simp) ?_)))
  refine stop_h (s := { s with heap := s.heap.update it _ }) (hot_upd hot nx) fun e oe h' he hc hk => ?_
  refine wpAny_bind (wpAny_isInstance (T := "StopIteration") (b := true) ⟨_, he, hc⟩ isSubtype_stop (wpAny_pure (hQ _ fun b o nb eb => ?_)))
  exact hk b o ((Heap.get?_update_other _ _ (Ne.symm nb)).trans eb)
theorem hot_ext {h h' : Heap} (hot : HotX.HotAt A x1 h) (k : ∀ b o, h.get? b = some o → h'.get? b = some o) : HotX.HotAt A x1 h' := by
  obtain ⟨hh, oh, vh, g1, g2⟩ := hot
  exact ⟨hh, oh, vh, k _ _ g1, g2⟩
/-- (a, b, ..) = a tuple of that length, within a suite -/
theorem assign_tup_h {env : Env} {elts : List Expr} {kt} {pos : Pos} {Q : Unit → Shared → Prop} (hot : HotX.HotAt A x1 s.heap) (ht : IsTup s.heap l items) (hn : (assignEach elts env).length = items.size) (hst : (assignEach elts env).findIdx? (·.1) = none)
    (h : ∀ h', (∀ b o, s.heap.get? b = some o → h'.get? b = some o) → wpAny (model prog w) A (assignInOrder ((assignEach elts env).map (·.2)) items.toList) Q E { s with heap := h' }) :
    wpAny (model prog w) A (assign (.Tuple elts kt pos) env (.ref l)) Q E s := by
  rw [assign_Tuple]
  refine wpAny_bind (wpAny_standAt ?_)
  unfold unpack
  rw [hn, hst]
  refine wpAny_bind (wpAny_holding ?_)
  have nl : l ≠ s.heap.objs.size := by
    obtain ⟨ol, gl, _⟩ := ht
    exact Nat.ne_of_lt (Heap.lt_size gl)
  have nx : x1 ≠ s.heap.objs.size := by
    obtain ⟨_, oh, vh, g1, _⟩ := hot
    exact Nat.ne_of_lt (Heap.lt_size g1)
  unfold unpackItems
  refine wpAny_bind ?_
  unfold notIterableAtAll
  refine wpAny_bind (wpAny_specialOf ht.typeIs slot_tuple_iter.lookup (wpAny_pure ?_))
  simp only [Bool.false_eq_true, if_false]
  refine wpAny_bind (wpAny_holding (iter_tuple ht (wpAny_bind (wpAny_holding (draw_tuple nl items.size 0 _ _ ⟨_, Heap.get?_push_size _ rfl, rfl, rfl⟩ (ht.push _) (by omega) fun h1 i1 s1 => ?_)))))
  rw [show List.take items.size (List.drop 0 items.toList) = items.toList from by rw [List.drop_zero]; exact List.take_of_length_le (by simp), if_neg (by simp)]
  have hot1 : HotX.HotAt A x1 h1 := by
    obtain ⟨hh, oh, vh, g1, g2⟩ := hot
    exact ⟨hh, oh, vh, s1.extBut _ _ nx (Heap.get?_push_of_some _ g1), g2⟩
  refine wpAny_bind (wpAny_holding (tup_end_h (s := { s with heap := h1 }) hot1 nx i1 ((ht.push _).extBut s1.extBut nl) (by simp) fun h2 e2 => ?_))
  simp only [Option.isSome_none, Bool.false_eq_true, if_false]
  refine wpAny_pure (h h2 fun b o e => ?_)
  have nb : b ≠ s.heap.objs.size := Nat.ne_of_lt (Heap.lt_size e)
  exact e2 b o nb (s1.extBut b o nb (Heap.get?_push_of_some _ e))
end
end Ink
/-! Ink24 -/
/-! [w for w, f in rows if f], within an except suite. -/
namespace Ink
open PySem PySem.Spec PyProof.Rows L2
/-- a row of pairs of a text and a bool -/
def Rows (H : Hp) (vs : List V) (ps : List (Str × Bool)) : Prop := vs.length = ps.length ∧ ∀ (i : Nat) (x : Str) (b : Bool), ps[i]? = some (x, b) → ∃ t, vs[i]? = some (.ref t) ∧ H t = some (.tup [.str x, .bl b])
def outH (ps : List (Str × Bool)) : List V := (ps.filter (·.2)).map fun p => V.str p.1
theorem outH_yes {ps : List (Str × Bool)} {i : Nat} {x : Str} (h : ps[i]? = some (x, true)) : outH (ps.take (i + 1)) = outH (ps.take i) ++ [.str x] := by
  unfold outH
  rw [List.take_succ, h, List.filter_append, List.map_append]
  rfl
theorem outH_no {ps : List (Str × Bool)} {i : Nat} {x : Str} (h : ps[i]? = some (x, false)) : outH (ps.take (i + 1)) = outH (ps.take i) := by
  unfold outH
  rw [List.take_succ, h, List.filter_append, List.map_append]
  show _ ++ [] = _
  rw [List.append_nil]
theorem outH_len (ps : List (Str × Bool)) (i : Nat) : (outH (ps.take i)).length ≤ ps.length := by
  unfold outH
  rw [List.length_map]
  refine Nat.le_trans (List.length_filter_le _ _) ?_
  rw [List.length_take]
  exact Nat.min_le_right _ _
def tLcH (js : Nat) : TE := fun σ H Q => ∃ a vs ps, σ[js]? = some (some (.ref a)) ∧ H a = some (.lst vs) ∧ Rows H vs ps ∧ ps.length ≤ 100 ∧ ∀ D, H D = none → Q (.ref D) (upd H D (.lst (outH ps)))
section
variable {X : Cx}
theorem lcH_core {p : Addr × Obj} {pins : List (Addr × Obj)} {s : Shared} {σ : L2.St} {H : Hp} {Q : VK} {pos' : Pos} {use : Option (Value → Sem Unit)} {Qf : Value → Shared → Prop} {jw jf js : Nat} {w f sm : Str} {kt} {p1 p2 p3 p4 p5 p6 pos : Pos} {scope : Scope} (hp : p ∈ X.pn) (hot : L2H.Hot1 X.A p) (hN : X.N.Nodup) (hjs : X.N[js]? = some sm) (hvs : Vis X.env.scope sm) (hjw : jw < X.N.length) (hjf : jf < X.N.length) (hne : jw ≠ jf)
    (hd : (sm == ("__debug__" : Str)) = false) (hcd : (sm == ("__classdict__" : Str)) = false)
    (ok : BlkOk X.N X.env.scope scope [(w, jw), (f, jf)])
    (hg : ∀ (s : Shared) (H : Hp) (C : Addr) (cl : List (Str × Addr)) (fp : List Addr), PGs (X.blk s H scope (compEnvC scope cl C X.env) fp) [.Name w p2, .Name f p3] (gCons (gName jw) (gCons (gName jf) gNil)))
    (hn : ∀ (C : Addr) (cl : List (Str × Addr)), (assignEach [.Name w p2, .Name f p3] (compEnvC scope cl C X.env)).length = 2 ∧ (assignEach [.Name w p2, .Name f p3] (compEnvC scope cl C X.env)).findIdx? (·.1) = none)
    (ht : ∀ (s : Shared) (H : Hp) (C : Addr) (cl : List (Str × Addr)) (fp : List Addr), PT (X.blk s H scope (compEnvC scope cl C X.env) fp) (.Name f p6) (tB (tVar jf)))
    (he : ∀ (s : Shared) (H : Hp) (C : Addr) (cl : List (Str × Addr)) (fp : List Addr), PE (X.blk s H scope (compEnvC scope cl C X.env) fp) (.Name w p1) (tVar jw))
    (hs : ∀ x, foldedSetIterable (.Name sm p5) X.env x = pure x) (I : Inv X pins σ H s) (h : tLcH js σ H Q)
    (hRR : ∀ D C s' m H', Inv X pins σ H' s' → Q (.ref D) H' → s'.heap.Ns C m → FpOk X pins H' C → compPost (model X.prog X.w) X.A X.xe use Qf (.ref D) C (.ok .next) s') :
    wpAny (model X.prog X.w) X.A (comprehension (.ListComp (.Name w p1) [⟨.Tuple [.Name w p2, .Name f p3] kt p4, .Name sm p5, [.Name f p6], 0⟩] scope pos) scope X.env pos' (newList []) false (eval (.Name sm p5) X.env) use) Qf X.xe s := by
  obtain ⟨a, vs, ps, hσ, ha, ⟨hl, hr⟩, h100, hQ⟩ := h
  have P1 := I.pin p (List.mem_append_left _ hp)
  have nst : p.1 ∉ frs X.stack := fun z => (List.mem_cons.mp (I.stkSub p.1 z)).elim P1.2.2.1 P1.2.2.2.1
  have hcap : ∀ y ∈ scope.names, y.2 = .free → ∃ c, X.env.cells.lookup y.1 = some c := fun y hy e => by
    rcases ok.free y hy e with z | z
    · exact I.ok.has _ (.inl z)
    · exact I.ok.has _ (.inr z)
  refine wpAny_comprehension_free (use := use) rfl hs (closure_ok hcap) ok.kind (fun y hy e => by rw [ok.uniq y hy, e])
    (thn ((pe_var (X := X) hjs hvs hd hcd).run pins s σ H (fun v H' => v = .ref a ∧ H' = H) I ⟨_, hσ, rfl, rfl⟩) fun xv s1 hx => ?_)
  obtain ⟨x, H1, I1, rx, rfl, rfl⟩ := hx
  cases rx
  obtain ⟨its, rv, pl, hz⟩ := I1.list (SqL.of ha)
  refine wpAny_pyIter_list pl.isList ?_
  -- the iterator, the new list, the block
  generalize hit : s1.heap.objs.size = it
  generalize hs2 : ({ s1 with heap := s1.heap.push { cls := .type "list_iterator", data := .fields #[.ref a, .int 0 0] } } : Shared) = s2
  have I2 : Inv X pins σ H1 s2 := by
    rw [← hs2]
    exact I1.kept (t' := s1.toks) fun b o e => Heap.get?_push_of_some _ e
  have st2 : s2.heap.IsListIter it a 0 := by
    rw [← hs2, ← hit]
    exact ⟨_, Heap.get?_push_size _ rfl, rfl, rfl⟩
  have f2 : FpOk X pins H1 it := by
    rw [← hit]
    exact I1.fpOk (Nat.le_refl _) (I1.hok.fresh (Nat.le_refl _))
  have npit : p.1 ≠ it := f2.2.2.2.2.2 p (List.mem_append_left _ hp)
  refine wpAny_newObj_type (newEnv_comp ?_) (by show 0 ≤ sizeLine; decide)
  generalize hD : s2.heap.objs.size = D
  have nD : H1 D = none := I2.hok.fresh (Nat.le_of_eq hD)
  have hQD := hQ D nD
  generalize hs3 : ({ s2 with heap := s2.heap.push { cls := .type "list", data := .seq ([] : List Value).toArray } } : Shared) = s3
  have I3 : Inv X pins σ (upd H1 D (.lst [])) s3 := by
    rw [← hs3]
    refine I2.laid (t' := s2.toks) (fun b o e => Heap.get?_push_of_some _ e) (Nat.le_of_eq hD) ⟨Nat.zero_le _, [], 0, .nil, ?_⟩
    rw [← hD]
    exact Heap.get?_push_size _ rfl
  have k23 : ∀ b o, s2.heap.get? b = some o → s3.heap.get? b = some o := fun b o e => by
    rw [← hs3]
    exact Heap.get?_push_of_some _ e
  have itD : it ≠ D := by
    obtain ⟨o, e, _⟩ := st2
    rw [← hD]
    exact Nat.ne_of_lt (Heap.lt_size e)
  have st3 : s3.heap.IsListIter it a 0 := by
    obtain ⟨o, e, c, d⟩ := st2
    exact ⟨o, k23 _ _ e, c, d⟩
  have f3 : FpOk X pins (upd H1 D (.lst [])) it := ⟨by rw [upd_ne itD]; exact f2.1, f2.2⟩
  have l3 : it < s3.heap.objs.size := by
    obtain ⟨o, e, _⟩ := st3
    exact Heap.lt_size e
  have I4 := block_start (fp := [it]) I3 ok hN (fun b hb => by
    rw [List.mem_singleton] at hb
    rw [hb]
    exact ⟨f3, l3⟩)
  generalize hcl : cellsFrom (s3.heap.objs.size + 1) scope.names (cloFrom X.env.cells scope.names []) = cl at I4 ⊢
  show codeAny _ _ (.compStart (.ListComp (.Name w p1) [⟨.Tuple [.Name w p2, .Name f p3] kt p4, .Name sm p5, [.Name f p6], 0⟩] scope pos) 0 (.ref it) (.ref D) (compEnvC scope cl s3.heap.objs.size X.env)) (compPost (model X.prog X.w) X.A X.xe use Qf (.ref D) s3.heap.objs.size) { s3 with heap := pushCells (s3.heap.push { cls := .type "dict", data := .dict #[] }) scope.names }
  have pg := hg s3 (upd H1 D (.lst [])) s3.heap.objs.size cl [it]
  have pt := ht s3 (upd H1 D (.lst [])) s3.heap.objs.size cl [it]
  have pe := he s3 (upd H1 D (.lst [])) s3.heap.objs.size cl [it]
  have hn2 := hn s3.heap.objs.size cl
  generalize hce : compEnvC scope cl s3.heap.objs.size X.env = ce at I4 pg pt pe hn2 ⊢
  have cL : ce.locals = s3.heap.objs.size := by subst hce; rfl
  have P3 := I3.pin p (List.mem_append_left _ hp)
  have k34 : ∀ b o, s3.heap.get? b = some o → (pushCells (s3.heap.push { cls := .type "dict", data := .dict #[] }) scope.names).get? b = some o := fun b o e => pushCells_keeps _ _ _ _ (Heap.get?_push_of_some _ e)
  generalize hs4 : ({ s3 with heap := pushCells (s3.heap.push { cls := .type "dict", data := .dict #[] }) scope.names } : Shared) = s4 at I4 ⊢
  have k4 : ∀ b o, s3.heap.get? b = some o → s4.heap.get? b = some o := fun b o e => by
    rw [← hs4]
    exact k34 b o e
  have st4 : s4.heap.IsListIter it a 0 := by
    obtain ⟨o, e, c, d⟩ := st3
    exact ⟨o, k4 _ _ e, c, d⟩
  generalize hH3 : upd H1 D (.lst []) = H3 at I3 I4 pg pt pe f3 P3
  have I4p : Inv (X.blk s3 H3 scope ce [it]) [p] (wipe σ [jw, jf]) H3 s4 := I4.pins_of fun q hq => by
    rw [List.mem_singleton] at hq
    rw [hq]
    exact ⟨k4 _ _ P3.1, P3.2.1, by show p.1 ≠ ce.locals; rw [cL]; exact Nat.ne_of_lt (Heap.lt_size P3.1), nst, P3.2.2.2.2⟩
  have stat : ∀ {σ' : L2.St} {H' : Hp} {s' : Shared}, Inv (X.blk s3 H3 scope ce [it]) [p] σ' H' s' → H' it = none → FpOk (X.blk s3 H3 scope ce [it]) [p] H' it := fun {σ' H' s'} I' n' => by
    have m1 : it ∈ [it] := List.mem_singleton.mpr rfl
    refine ⟨n', (I'.ok.exf it m1).1, I'.ok.exfs it m1, .inl m1, fun x c e => (I'.ok.exf it m1).2 x c e, fun q hq => ?_⟩
    have eq : q = p := by simpa using (show q ∈ ([] : List (Addr × Obj)) ++ [p] from hq)
    rw [eq]
    exact npit
  have hlen : (wipe σ [jw, jf]).length = X.N.length := by
    rw [wipe_length]
    exact I3.len
  have ntup : ∀ {t : Addr} {o : HO}, H1 t = some o → t ≠ D := fun e => ne_of_none e nD
  have loop : codeAny (model X.prog X.w) X.A (.compLoop (.ListComp (.Name w p1) [⟨.Tuple [.Name w p2, .Name f p3] kt p4, .Name sm p5, [.Name f p6], 0⟩] scope pos) 0 (.ref it) (.ref D) ce) (compPost (model X.prog X.w) X.A X.xe use Qf (.ref D) s3.heap.objs.size) s4 := by
    refine compLoop_any (fun n s' => ∃ i, n = ps.length - i ∧ i ≤ ps.length ∧ Inv (X.blk s3 H3 scope ce [it]) [p] (wipe σ [jw, jf]) (upd H1 D (.lst (outH (ps.take i)))) s' ∧ s'.heap.IsListIter it a i) ?_ ps.length ⟨0, rfl, Nat.zero_le _, by rw [show upd H1 D (HO.lst (outH (ps.take 0))) = H3 from hH3]; exact I4p, st4⟩
    rintro n s5 ⟨i, rfl, hi, I5, st5⟩
    have n5 : (upd H1 D (.lst (outH (ps.take i)))) it = none := by
      rw [upd_ne itD]
      exact f2.1
    obtain ⟨g0, g1, g2, g3, g4, g5⟩ := stat I5 n5
    have ha5 : (upd H1 D (.lst (outH (ps.take i)))) a = some (.lst vs) := by
      rw [upd_ne (ntup ha)]
      exact ha
    obtain ⟨it5, rv5, pl5, hz5⟩ := I5.list (SqL.of ha5)
    have hl5 := rv5.length
    have P5 := I5.pin p (List.mem_append_right _ (List.mem_singleton.mpr rfl))
    have hot5 : HotX.HotAt X.A p.1 s5.heap := by
      obtain ⟨hh, v1, e1, c1⟩ := hot
      exact ⟨hh, p.2, v1, P5.1, e1, c1⟩
    by_cases hlt : i < ps.length
    · obtain ⟨⟨x, b⟩, hx⟩ : ∃ q, ps[i]? = some q := ⟨_, List.getElem?_eq_getElem hlt⟩
      obtain ⟨t, hv, htt⟩ := hr i x b hx
      obtain ⟨u, hu, ru⟩ := rv5.get hv
      cases ru
      refine wpAny_pyNext_list_item st5 pl5.isList (x := .ref t) (by simpa using hu) fun h' st' sb => ?_
      have I6 : Inv (X.blk s3 H3 scope ce [it]) [p] (wipe σ [jw, jf]) (upd H1 D (.lst (outH (ps.take i)))) { s5 with heap := h' } := I5.turned (t' := s5.toks) (fun b o hb e => (sb.2 b hb).trans e) g0 g1 g3 g4 g5
      obtain ⟨oi, ei, ci, di⟩ := id st'
      refine go_of (s := { s5 with heap := h' }) ei ci di (by decide) ?_
      have ht6 : (upd H1 D (.lst (outH (ps.take i)))) t = some (.tup [.str x, .bl b]) := by
        rw [upd_ne (ntup htt)]
        exact htt
      obtain ⟨itt, rvt, plt, hzt⟩ := I6.tuple (SqT.of ht6)
      have P6 := I6.pin p (List.mem_append_right _ (List.mem_singleton.mpr rfl))
      have hot6 : HotX.HotAt X.A p.1 h' := by
        obtain ⟨hh, v1, e1, c1⟩ := hot
        exact ⟨hh, p.2, v1, P6.1, e1, c1⟩
      have hl2 := rvt.length
      refine assign_tup_h (s := { s5 with heap := h' }) hot6 plt (by rw [hn2.1, List.size_toArray, ← hl2]; rfl) hn2.2 fun h2 e2 => ?_
      have I7 : Inv (X.blk s3 H3 scope ce [it]) [p] (wipe σ [jw, jf]) (upd H1 D (.lst (outH (ps.take i)))) { s5 with heap := h2 } := I6.kept (t' := s5.toks) fun b o e => e2 b o e
      have st7 : Heap.IsListIter h2 it a (i + 1) := ⟨oi, e2 _ _ ei, ci, di⟩
      have I7' := I7.pinned (fp := [it]) (fun b hb => by
        rw [List.mem_singleton] at hb
        rw [hb]
        exact stat I7 n5) (fun b hb => by
        rw [List.mem_singleton] at hb
        rw [hb]
        exact ⟨oi, e2 _ _ ei, fun v z => by rw [di] at z; cases z⟩)
      refine thnF (pg.run _ { s5 with heap := h2 } _ _ [.str x, .bl b] _ (fun σ' H' => σ' = ((wipe σ [jw, jf]).set jw (some (.str x))).set jf (some (.bl b)) ∧ H' = upd H1 D (.lst (outH (ps.take i)))) I7' (by simpa using rvt) ⟨_, _, rfl, _, _, rfl, rfl, rfl, rfl⟩) fun _ s8 ⟨σ8, H8, I8, e8, e9⟩ => ?_
      subst e8 e9
      have w8 : wipe (((wipe σ [jw, jf]).set jw (some (.str x))).set jf (some (.bl b))) [jw, jf] = wipe σ [jw, jf] := by
        show (((((σ.set jf none).set jw none).set jw (some (.str x))).set jf (some (.bl b))).set jf none).set jw none = (σ.set jf none).set jw none
        rw [List.set_set, List.set_set, List.set_comm (some (V.str x)) none hne, List.set_set, List.set_set]
      refine thnF ((pts_one pt).run _ s8 _ _ (fun c H' => c = b ∧ H' = upd H1 D (.lst (outH (ps.take i)))) I8 ⟨.bl b, List.getElem?_set_self (by rw [List.length_set, hlen]; exact hjf), b, rfl, rfl, rfl⟩) fun c s9 ⟨H9, I9, e1, e3⟩ => ?_
      subst e3
      rw [e1]
      clear e1
      have fin : ∀ {s' : Shared} {j : List V}, Inv (X.blk s3 H3 scope ce [it]) ([p] ++ pinsAt [it] h2) (((wipe σ [jw, jf]).set jw (some (.str x))).set jf (some (.bl b))) (upd H1 D (.lst j)) s' → j = outH (ps.take (i + 1)) →
          ∃ m, m < ps.length - i ∧ ∃ i, m = ps.length - i ∧ i ≤ ps.length ∧ Inv (X.blk s3 H3 scope ce [it]) [p] (wipe σ [jw, jf]) (upd H1 D (.lst (outH (ps.take i)))) s' ∧ s'.heap.IsListIter it a i := fun {s' j} I' ej => by
        subst ej
        have q := I'.pin (it, oi) (List.mem_append_right _ (List.mem_append_right _ (mem_pinsAt (List.mem_singleton.mpr rfl) (e2 _ _ ei))))
        refine ⟨ps.length - (i + 1), by omega, i + 1, rfl, hlt, (I'.unpinned (pins := [p])).weak (by rw [List.length_set, List.length_set]) (fun j v e => ?_), ⟨oi, q.1, ci, di⟩⟩
        rw [← w8] at e
        exact (wipe_some e).1
      cases hb : b with
      | false =>
        subst hb
        simp only [Bool.false_eq_true, if_false]
        exact fin I9 (outH_no hx).symm
      | true =>
        subst hb
        simp only [if_true]
        refine thnF (pe.run _ s9 _ _ (fun v H' => v = .str x ∧ H' = upd H1 D (.lst (outH (ps.take i)))) I9 ⟨.str x, by rw [List.getElem?_set_ne (Ne.symm hne)]; exact List.getElem?_set_self (by rw [hlen]; exact hjw), rfl, rfl⟩) fun z s10 ⟨yv, H10, I10, r10, e3, e4⟩ => ?_
        subst e3 e4
        refine app_ok (X := X.blk s3 H3 scope ce [it]) I10 upd_same (by have := outH_len ps i; have := sizeLine_eq; omega) r10 fun s11 I11 => ?_
        rw [upd_upd] at I11
        exact fin I11 (outH_yes hx).symm
    · have ei : i = ps.length := by omega
      subst ei
      refine list_end_h hot5 npit st5 pl5.isList (by simp; omega) fun h' eb => ?_
      have I6 : Inv (X.blk s3 H3 scope ce [it]) [p] (wipe σ [jw, jf]) (upd H1 D (.lst (outH (ps.take ps.length)))) { s5 with heap := h' } := I5.turned (t' := s5.toks) (fun b o hb e => eb b o hb e) g0 g1 g3 g4 g5
      rw [List.take_length] at I6
      have I7 : Inv X pins σ (upd H1 D (.lst (outH ps))) { s5 with heap := h' } := I3.call' (ch := [it]) I6.os I6.base I6.hok I6.bare fun b hb => by
        rw [List.mem_singleton] at hb
        rw [hb]
        exact ⟨f3.2.2.2.1, f3.2.1, f3.2.2.2.2.1, f3.2.2.2.2.2⟩
      obtain ⟨m, hm, _⟩ := I6.loc
      have hm : h'.Ns ce.locals m := hm
      rw [cL] at hm
      have nC : (upd H1 D (.lst (outH ps))) s3.heap.objs.size = none := by
        have z : (upd H1 D (.lst (outH ps))) ce.locals = none := I6.free
        rw [cL] at z
        exact z
      exact hRR D s3.heap.objs.size { s5 with heap := h' } m _ I7 hQD hm (I3.fpOk (Nat.le_refl _) nC)
  exact codeAny_compStart_list loop (wpAny_pyIter_listiter st4 loop)
theorem pe_lcH {p : Addr × Obj} {jw jf js : Nat} {w f sm : Str} {kt} {p1 p2 p3 p4 p5 p6 pos : Pos} {scope : Scope} (hp : p ∈ X.pn) (hot : L2H.Hot1 X.A p) (hN : X.N.Nodup) (hjs : X.N[js]? = some sm) (hvs : Vis X.env.scope sm) (hjw : jw < X.N.length) (hjf : jf < X.N.length) (hne : jw ≠ jf)
    (hd : (sm == ("__debug__" : Str)) = false) (hcd : (sm == ("__classdict__" : Str)) = false)
    (ok : BlkOk X.N X.env.scope scope [(w, jw), (f, jf)])
    (hg : ∀ (s : Shared) (H : Hp) (C : Addr) (cl : List (Str × Addr)) (fp : List Addr), PGs (X.blk s H scope (compEnvC scope cl C X.env) fp) [.Name w p2, .Name f p3] (gCons (gName jw) (gCons (gName jf) gNil)))
    (hn : ∀ (C : Addr) (cl : List (Str × Addr)), (assignEach [.Name w p2, .Name f p3] (compEnvC scope cl C X.env)).length = 2 ∧ (assignEach [.Name w p2, .Name f p3] (compEnvC scope cl C X.env)).findIdx? (·.1) = none)
    (ht : ∀ (s : Shared) (H : Hp) (C : Addr) (cl : List (Str × Addr)) (fp : List Addr), PT (X.blk s H scope (compEnvC scope cl C X.env) fp) (.Name f p6) (tB (tVar jf)))
    (he : ∀ (s : Shared) (H : Hp) (C : Addr) (cl : List (Str × Addr)) (fp : List Addr), PE (X.blk s H scope (compEnvC scope cl C X.env) fp) (.Name w p1) (tVar jw))
    (hs : ∀ x, foldedSetIterable (.Name sm p5) X.env x = pure x := by intro _; rfl) :
    PE X (.ListComp (.Name w p1) [⟨.Tuple [.Name w p2, .Name f p3] kt p4, .Name sm p5, [.Name f p6], 0⟩] scope pos) (tLcH js) := by
  refine ⟨fun pins s σ H Q I h => ?_⟩
  rw [eval_ListComp]
  refine lcH_core (use := none) hp hot hN hjs hvs hjw hjf hne hd hcd ok hg hn ht he hs I h fun D C s' m H' I' q hm f => ⟨m, hm, fun h2 sb => ?_⟩
  obtain ⟨c0, c1, c2, c3, c4, c5⟩ := f
  exact ⟨.ref D, H', I'.turned (t' := s'.toks) (fun b o hb e => (sb.2 b hb).trans e) c0 c1 c3 c4 c5, rfl, q⟩
theorem ps_lcH {p : Addr × Obj} {k : Nat} {y : Str} {py spos : Pos} {jw jf js : Nat} {w f sm : Str} {kt} {p1 p2 p3 p4 p5 p6 pos : Pos} {scope : Scope} (hp : p ∈ X.pn) (hy : X.N[k]? = some y) (hyl : X.env.scope.names.lookup y = some .local) (hsw : swapsWith (.ListComp (.Name w p1) [⟨.Tuple [.Name w p2, .Name f p3] kt p4, .Name sm p5, [.Name f p6], 0⟩] scope pos) (some (.Name y py)) spos.line X.env = pure true) (hot : L2H.Hot1 X.A p) (hN : X.N.Nodup) (hjs : X.N[js]? = some sm) (hvs : Vis X.env.scope sm) (hjw : jw < X.N.length) (hjf : jf < X.N.length) (hne : jw ≠ jf)
    (hd : (sm == ("__debug__" : Str)) = false) (hcd : (sm == ("__classdict__" : Str)) = false)
    (ok : BlkOk X.N X.env.scope scope [(w, jw), (f, jf)])
    (hg : ∀ (s : Shared) (H : Hp) (C : Addr) (cl : List (Str × Addr)) (fp : List Addr), PGs (X.blk s H scope (compEnvC scope cl C X.env) fp) [.Name w p2, .Name f p3] (gCons (gName jw) (gCons (gName jf) gNil)))
    (hn : ∀ (C : Addr) (cl : List (Str × Addr)), (assignEach [.Name w p2, .Name f p3] (compEnvC scope cl C X.env)).length = 2 ∧ (assignEach [.Name w p2, .Name f p3] (compEnvC scope cl C X.env)).findIdx? (·.1) = none)
    (ht : ∀ (s : Shared) (H : Hp) (C : Addr) (cl : List (Str × Addr)) (fp : List Addr), PT (X.blk s H scope (compEnvC scope cl C X.env) fp) (.Name f p6) (tB (tVar jf)))
    (he : ∀ (s : Shared) (H : Hp) (C : Addr) (cl : List (Str × Addr)) (fp : List Addr), PE (X.blk s H scope (compEnvC scope cl C X.env) fp) (.Name w p1) (tVar jw))
    (hs : ∀ x, foldedSetIterable (.Name sm p5) X.env x = pure x := by intro _; rfl) :
    PS X (.Assign [.Name y py] (.ListComp (.Name w p1) [⟨.Tuple [.Name w p2, .Name f p3] kt p4, .Name sm p5, [.Name f p6], 0⟩] scope pos) spos) (tAsg (tLcH js) (gName k)) := by
  refine ⟨fun pins s σ H Dn I h => ?_⟩
  rw [exec_Assign_Name_used _ _ _ _ hsw]
  refine wpAny_bind (wpAny_standAt (wpAny_bind ?_))
  show wpAny _ X.A (do let _ ← comprehension (.ListComp (.Name w p1) [⟨.Tuple [.Name w p2, .Name f p3] kt p4, .Name sm p5, [.Name f p6], 0⟩] scope pos) scope X.env (firstIterPos [⟨.Tuple [.Name w p2, .Name f p3] kt p4, .Name sm p5, [.Name f p6], 0⟩] pos) (newList []) false (eval (.Name sm p5) X.env) (some (assign (.Name y py) X.env))) _ _ s
  have h' : tLcH js σ H (fun x H1 => gName k x σ H1 Dn.nx) := h
  refine wpAny_bind (thn (lcH_core (Qf := fun _ s' => SP X pins Dn .next s') hp hot hN hjs hvs hjw hjf hne hd hcd ok hg hn ht he hs I h' fun D C s' m H' I' q hm f => ?_) fun _ s' hq => wpAny_pure (wpAny_pure hq))
  show wpAny _ _ (assign (.Name y py) X.env (.ref D)) _ _ _
  refine wpAny_assign_Name (store_ok2 (v := V.ref D) I' hN hy (.inl hyl) rfl (fun s2 I2 ⟨b, sb, hb⟩ => ?_) (.inr hyl))
  obtain ⟨c0, c1, c2, c3, c4, c5⟩ := f
  have nb : C ≠ b := hb.elim (fun z => by rw [z]; exact c1) fun z e => c4 y b z e.symm
  exact ⟨m, hm.sameBut sb nb, fun h3 sb3 => ⟨_, H', I2.turned (t' := s2.toks) (fun b o nb e => (sb3.2 b nb).trans e) c0 c1 c3 c4 c5, q⟩⟩
end
end Ink
/-! Ink25 -/
/-! The law's word for an error that is handled. -/
namespace Ink
open PySem PySem.Spec PyProof.Rows L2
def wordL : List Str := ["text", "change", "fit", "place", "side", "mark", "node", "cursor", "deed", "letter", "gone", "hand", "note"]
def clsNm : List Str := ["BadText", "BadChange", "BadFit", "NoPlace", "BadSide", "NoMark", "NoNode", "NoCursor", "BadDeed", "BadLetter", "NoLetter", "NoHand", "NoNote"]
def clsA (A : Ad) : List Addr := [A.text, A.change, A.fit, A.place, A.side, A.mark, A.node, A.cursor, A.deed, A.letter, A.gone, A.hand, A.note]
/-- what isinstance says of an error of the i-th class, at D -/
structure WdC (B : Bs) (A : Ad) (D : Addr) (i : Nat) : Prop where
  exc : ExcC B.K D
  kit : ∀ j, j < 13 → PySem.W.kitOne B.K (.ref D) (.ref ((clsA A).getD j 0)) = some (decide (j = i))
  ink : PySem.W.kitOne B.K (.ref D) (.ref A.ink) = some true
  ve : PySem.W.kitOne B.K (.ref D) (.type "ValueError") = some true
structure TxtW (B : Bs) (A : Ad) : Prop where
  T : Txt B A
  gnm : ∀ j, j < 13 → B.mg (clsNm.getD j Str.empty) = some (.ref ((clsA A).getD j 0))
  text : WdC B A A.text 0
  change : WdC B A A.change 1
  fit : WdC B A A.fit 2
  letter : WdC B A A.letter 9
  gone : WdC B A A.gone 10
  hand : WdC B A A.hand 11
  d_word : Df B "_law_word" s_w_word
  d_all : Df B "_law_all" s_w_all
section
variable {X : Cx} {S : Set'} {G : Gm} {W W1 : As} {e : Expr} {p : Addr × Obj} {D' c : Addr} {pos : Pos}
theorem call_isP {D : Addr} (C : ExcC X.K D) (hp : p ∈ X.pn) (hz : Zc (.ref D) none p.2) (hf : ∃ vs, p.2.data = .fields vs) : CallR X (.builtin "isinstance") (rIsE X.K D p.1) := by
  intro pins s σ H xs us Q I r h
  obtain ⟨cl, cv, b, rfl, hcv, e, q⟩ := h
  cases r with
  | cons rx rr =>
    cases rr with
    | cons rt rr =>
      cases rr
      cases rx
      cases hcv _ rt
      have hget := (I.pin p (List.mem_append_left _ hp)).1
      obtain ⟨vs, hv⟩ := hf
      obtain ⟨a, oc, od, oda, osl⟩ := p
      obtain ⟨h1, h2⟩ := hz
      dsimp only at h1 h2 hv hget
      subst h1 h2 hv
      have J : PySem.W.InstAt s.heap a _ D none := ⟨hget, rfl, rfl, trivial⟩
      exact PySem.W.kia_one (PySem.W.handS_kitx_exc C.hg C.hk C.hs C.hd C.ha C.hn C.ht C.hm) I.kIn J e (fun z => nomatch z) fun tk => ⟨.bl b, H, I.kept (t' := tk) fun _ _ z => z, rfl, q⟩
theorem co_isP {D : Addr} {b : Bool} (C : ExcC X.K D) (hp : p ∈ X.pn) (hz : Zc (.ref D) none p.2) (hf : ∃ vs, p.2.data = .fields vs) (k : PySem.W.kitOne X.K (.ref D) (.ref c) = some b) : CalO X (.builtin "isinstance") [.ref p.1, .ref c] (.bl b) := ⟨_, call_isP C hp hz hf, fun S H vs _ hd Q q => by
  obtain ⟨u, v, rfl, pu, pv⟩ := two_dat hd
  cases (show u = .ref p.1 from pu)
  cases (show v = .ref c from pv)
  exact ⟨.ref c, .ref c, b, rfl, fun u r => r, k, q _ H (Same.refl H) rfl⟩⟩
theorem co_isPT {D : Addr} {b : Bool} {T : String} (C : ExcC X.K D) (hp : p ∈ X.pn) (hz : Zc (.ref D) none p.2) (hf : ∃ vs, p.2.data = .fields vs) (k : PySem.W.kitOne X.K (.ref D) (.type T) = some b) : CalO X (.builtin "isinstance") [.ref p.1, .ty T] (.bl b) := ⟨_, call_isP C hp hz hf, fun S H vs _ hd Q q => by
  obtain ⟨u, v, rfl, pu, pv⟩ := two_dat hd
  cases (show u = .ref p.1 from pu)
  cases (show v = .ty T from pv)
  exact ⟨.ty T, .type T, b, rfl, fun u r => r, k, q _ H (Same.refl H) rfl⟩⟩
def rowD (p : Str × Bool) : D := .tup [.str p.1, .bl p.2]
theorem rows_dat {H : Hp} : ∀ {ps : List (Str × Bool)} {vs : List V}, DatL S H vs (ps.map rowD) → Rows H vs ps
  | [], _, h => by
    cases (show _ = [] from h)
    exact ⟨rfl, fun i x b e => by simp at e⟩
  | q :: ps, _, h => by
    obtain ⟨v, r, rfl, pv, pr⟩ := h
    obtain ⟨l1, l2⟩ := rows_dat pr
    refine ⟨congrArg Nat.succ l1, fun i x b e => ?_⟩
    cases i with
    | zero =>
      cases (Option.some.inj e)
      obtain ⟨t, ws, rfl, _, ht, rw⟩ := pv
      obtain ⟨u, w, rfl, pu, pw⟩ := two_dat rw
      cases (show u = .str x from pu)
      cases (show w = .bl b from pw)
      exact ⟨t, rfl, ht⟩
    | succ i => exact l2 i x b e
theorem strs_out (S : Set') (H : Hp) : ∀ l : List Str, DatL S H (l.map V.str) (l.map D.str)
  | [] => rfl
  | x :: l => ⟨_, _, rfl, rfl, strs_out S H l⟩
theorem ev_lcH {js : Nat} {ps : List (Str × Bool)} {ex : Expr} (h : PE X ex (tLcH js)) (hG : G[js]? = some (some (.lst (ps.map rowD)))) (hl : ps.length ≤ 100) (hs : Stb W) : Ev X S ex G W (.lst (((ps.filter (·.2)).map (·.1)).map D.str)) W := fun σ H ty so w Q q => by
  obtain ⟨v, hv, pv⟩ := ty.2 js _ hG
  obtain ⟨a, vs, rfl, na, ha, r⟩ := pv
  refine ⟨_, h, a, vs, ps, hv, ha, rows_dat r, hl, fun Dl hD => ?_⟩
  have e : outH ps = ((ps.filter (·.2)).map (·.1)).map V.str := by
    unfold outH
    rw [List.map_map]
    rfl
  rw [e]
  exact q _ _ (Same.kept (Same.new hD)) (hs _ _ w (Same.new hD)) (dat_new_lst so hD (strs_out S H _))
theorem blk_lcH (k : Nat) {js : Nat} {ps : List (Str × Bool)} {st : Stmt} {rest : List Stmt} {En : Ends} (h : PS X st (tAsg (tLcH js) (gName k))) (hG : G[js]? = some (some (.lst (ps.map rowD)))) (hl : ps.length ≤ 100) (hs : Stb W) (kk : Blk X S rest En (G.set k (some (.lst (((ps.filter (·.2)).map (·.1)).map D.str)))) W) : Blk X S (st :: rest) En G W := fun σ H ty so w => by
  obtain ⟨v, hv, pv⟩ := ty.2 js _ hG
  obtain ⟨a, vs, rfl, na, ha, r⟩ := pv
  refine ⟨_, pss_cons h wb_pss, a, vs, ps, hv, ha, rows_dat r, hl, fun Dl hD => ?_⟩
  have e : outH ps = ((ps.filter (·.2)).map (·.1)).map V.str := by
    unfold outH
    rw [List.map_map]
    rfl
  rw [e]
  have s1 := Same.new (o := .lst (((ps.filter (·.2)).map (·.1)).map V.str)) hD
  exact kk _ _ ((ty.kept (Same.kept s1)).set k (dat_new_lst so hD (strs_out S H _))) (so.kept (Same.kept s1)) (hs _ _ w s1)
theorem ev_join1 {sep w : Str} {j : Nat} {apos cpos p1 : Pos} (h : Ev X S e G W (.lst [.str w]) W1) (hw : w.length + sep.length ≤ 1000)
    (hbase : attributeBase (.Constant (.str sep) j p1) "join" X.env (eval (.Constant (.str sep) j p1) X.env) = eval (.Constant (.str sep) j p1) X.env := by rfl)
    (hfew : ((backTo cpos (starEach [e] X.env)).all (fun x => !x.1) && (backToKw cpos (keywordEach [] X.env)).all (fun x => x.1.isSome)
      && decide ([e].length + ([] : List Keyword).length + (if ([] : List Keyword).isEmpty then 0 else 1) < 30)) = true := by rfl)
    (hline : (apos.endLine == cpos.line) = true := by rfl) (hs : starEach [e] X.env = (false, eval e X.env) :: starEach [] X.env := by rfl) (hplain : (backTo cpos (starEach [] X.env)).any (·.1) = false := by rfl) :
    Ev X S (.Call (.Attribute (.Constant (.str sep) j p1) "join" apos) [e] [] cpos) G W (.str (Txt.join sep [w])) W1 := fun σ H ty so w0 Q q =>
  ⟨_, pe_bm PySem.F.plainAttrs_str PySem.F.slot_str_join PySem.F.type_str_join mt_join pe_str (pa_cons we_pe pa_nil hs) hbase hfew hline hs hplain, rfl, h σ H ty so w0 _ fun v H1 k1 w1 p1 => by
    obtain ⟨a, vs, rfl, na, ha, r⟩ := p1
    have e2 := strs_dat (ns := [w]) r
    subst e2
    exact ⟨sep, a, [w], rfl, rfl, .inl (SqL.of ha), by simp; omega, q _ H1 k1 w1 rfl⟩⟩
end
end Ink
/-! Ink26 -/
/-! _law_word, called within an except suite. -/
namespace Ink
open PySem PySem.Spec PyProof.Rows L2
theorem boot_ve : bootBuiltins "ValueError" = some (.type "ValueError") := by decide +kernel
/-- the body's context -/
abbrev cxW (B : Bs) (f : Addr) (cdv : Value) (Ar : Around) (outer : List Env) (s : Shared) (H : Hp) (E : XK) (p : Addr × Obj) : Cx := L2H.cxH (CXN B) B.P B.w B.K B.mg B.base n_w_word "_law_word" (defScope s_w_word) f cdv Ar outer s H E p
def psW (i : Nat) : List (Str × Bool) := [("text", decide (0 = i)), ("change", decide (1 = i)), ("fit", decide (2 = i)), ("place", decide (3 = i)), ("side", decide (4 = i)), ("mark", decide (5 = i)), ("node", decide (6 = i)), ("cursor", decide (7 = i)), ("deed", decide (8 = i)), ("letter", decide (9 = i)), ("gone", decide (10 = i)), ("hand", decide (11 = i)), ("note", decide (12 = i))]
theorem psW_one : ∀ i, i < 13 → ((psW i).filter (·.2)).map (·.1) = [wordL.getD i Str.empty]
  | 0, _ | 1, _ | 2, _ | 3, _ | 4, _ | 5, _ | 6, _ | 7, _ | 8, _ | 9, _ | 10, _ | 11, _ | 12, _ => rfl
  | i + 13, h => absurd h (by omega)
theorem join_self (i : Nat) (h : i < 13) : Txt.join "/" [wordL.getD i Str.empty] = wordL.getD i Str.empty := by
  match i, h with
  | 0, _ | 1, _ | 2, _ | 3, _ | 4, _ | 5, _ | 6, _ | 7, _ | 8, _ | 9, _ | 10, _ | 11, _ | 12, _ => rfl
  | i + 13, h => exact absurd h (by omega)
theorem wordL_len : ∀ i, i < 13 → (wordL.getD i Str.empty).length ≤ 10
  | 0, _ | 1, _ | 2, _ | 3, _ | 4, _ | 5, _ | 6, _ | 7, _ | 8, _ | 9, _ | 10, _ | 11, _ | 12, _ => by decide
  | i + 13, h => absurd h (by omega)
theorem word_body {B : Bs} {A : Ad} (W : TxtW B A) {D : Addr} {i : Nat} (wd : WdC B A D i) (hi : i < 13) {f : Addr} {cdv : Value} {Ar : Around} {outer : List Env} {s : Shared} {H : Hp} {Q : VK} {E : XK} {p : Addr × Obj} (hot : L2H.Hot1 Ar p) (hz : Zc (.ref D) none p.2) (hf : ∃ vs, p.2.data = .fields vs) (hQ : ∀ H', Same H H' → Q (.str (wordL.getD i Str.empty)) H') :
    WB (cxW B f cdv Ar outer s H E p) (defBody s_w_word) { nx := fun _ H' => Q .non H', rt := Q } (L2.start n_w_word [.ref p.1]) H := by
  have T := W.T
  have st : Stb (Same H) := stb_same
  have nd := c_w_word.nd
  have hp : p ∈ (cxW B f cdv Ar outer s H E p).pn := List.mem_singleton.mpr rfl
  have isC : ∀ (S : Set') (G : Gm) (j : Nat) {x : Str} {p1 p2 p3 p4 : Pos}, j < 13 → G[0]? = some (some (.ref p.1)) → (x = clsNm.getD j Str.empty) → Gl (cxW B f cdv Ar outer s H E p) x → (x == ("__debug__" : Str)) = false →
      (he : starEach [.Name "_law_e" p1, .Name x p2] (cxW B f cdv Ar outer s H E p).env = (false, eval (.Name "_law_e" p1) (cxW B f cdv Ar outer s H E p).env) :: starEach [.Name x p2] (cxW B f cdv Ar outer s H E p).env) → (he2 : starEach [.Name x p2] (cxW B f cdv Ar outer s H E p).env = (false, eval (.Name x p2) (cxW B f cdv Ar outer s H E p).env) :: starEach [] (cxW B f cdv Ar outer s H E p).env) →
      (hpl : (backTo p4 (starEach [.Name x p2] (cxW B f cdv Ar outer s H E p).env)).any (·.1) = false) →
      Ev (cxW B f cdv Ar outer s H E p) S (.Call (.Name "isinstance" p3) [.Name "_law_e" p1, .Name x p2] [] p4) G (Same H) (.bl (decide (j = i))) (Same H) := fun S G j x p1 p2 p3 p4 hj hG hx hg hd he he2 hpl => by
    subst hx
    exact ev_bi (eva_cons (ev_name 0 (hG := hG)) (eva_cons (ev_glob (v := .ref ((clsA A).getD j 0)) (d := .ref ((clsA A).getD j 0)) (W.gnm j hj) rfl (fun _ _ => rfl) hg hd) eva_nil he2) he) (co_isP wd.exc hp hz hf (wd.kit j hj)) st T.zisi boot_isinstance rfl (by decide) (by decide) he hpl
  have t0 : Ty (fun _ => False) H (L2.start n_w_word [.ref p.1]) [some (.ref p.1), none, none, none, none] := ty_start (N := n_w_word) (ds := [.ref p.1]) ⟨_, [], rfl, rfl, rfl⟩ (Nat.le_of_ble_eq_true rfl)
  refine (?_ : Blk (cxW B f cdv Ar outer s H E p) (fun _ => False) (defBody s_w_word) { nx := fun _ H' => Q .non H', rt := Q } [some (.ref p.1), none, none, none, none] (Same H)) _ H t0 (fun b z => z.elim) (Same.refl H)
  refine blk_set 1 (ev_lst (eva_cons (ev_tup (eva_cons ev_str (eva_cons (isC _ _ 0 (by decide) rfl rfl rfl (by decide) rfl rfl rfl) eva_nil)) st) (eva_cons (ev_tup (eva_cons ev_str (eva_cons (isC _ _ 1 (by decide) rfl rfl rfl (by decide) rfl rfl rfl) eva_nil)) st) (eva_cons (ev_tup (eva_cons ev_str (eva_cons (isC _ _ 2 (by decide) rfl rfl rfl (by decide) rfl rfl rfl) eva_nil)) st) eva_nil))) st) ?_ nd
  refine blk_set 1 (ev_bin (ev_name 1) (ev_lst (eva_cons (ev_tup (eva_cons ev_str (eva_cons (isC _ _ 3 (by decide) rfl rfl rfl (by decide) rfl rfl rfl) eva_nil)) st) (eva_cons (ev_tup (eva_cons ev_str (eva_cons (isC _ _ 4 (by decide) rfl rfl rfl (by decide) rfl rfl rfl) eva_nil)) st) (eva_cons (ev_tup (eva_cons ev_str (eva_cons (isC _ _ 5 (by decide) rfl rfl rfl (by decide) rfl rfl rfl) eva_nil)) st) eva_nil))) st) (bo_addL (Nat.le_of_ble_eq_true rfl)) st) ?_ nd
  refine blk_set 1 (ev_bin (ev_name 1) (ev_lst (eva_cons (ev_tup (eva_cons ev_str (eva_cons (isC _ _ 6 (by decide) rfl rfl rfl (by decide) rfl rfl rfl) eva_nil)) st) (eva_cons (ev_tup (eva_cons ev_str (eva_cons (isC _ _ 7 (by decide) rfl rfl rfl (by decide) rfl rfl rfl) eva_nil)) st) eva_nil)) st) (bo_addL (Nat.le_of_ble_eq_true rfl)) st) ?_ nd
  refine blk_set 1 (ev_bin (ev_name 1) (ev_lst (eva_cons (ev_tup (eva_cons ev_str (eva_cons (isC _ _ 8 (by decide) rfl rfl rfl (by decide) rfl rfl rfl) eva_nil)) st) (eva_cons (ev_tup (eva_cons ev_str (eva_cons (isC _ _ 9 (by decide) rfl rfl rfl (by decide) rfl rfl rfl) eva_nil)) st) eva_nil)) st) (bo_addL (Nat.le_of_ble_eq_true rfl)) st) ?_ nd
  refine blk_set 1 (ev_bin (ev_name 1) (ev_lst (eva_cons (ev_tup (eva_cons ev_str (eva_cons (isC _ _ 10 (by decide) rfl rfl rfl (by decide) rfl rfl rfl) eva_nil)) st) (eva_cons (ev_tup (eva_cons ev_str (eva_cons (isC _ _ 11 (by decide) rfl rfl rfl (by decide) rfl rfl rfl) eva_nil)) st) (eva_cons (ev_tup (eva_cons ev_str (eva_cons (isC _ _ 12 (by decide) rfl rfl rfl (by decide) rfl rfl rfl) eva_nil)) st) eva_nil))) st) (bo_addL (Nat.le_of_ble_eq_true rfl)) st) ?_ nd
  refine Blk.weak (G' := [some (.ref p.1), some (.lst ((psW i).map rowD)), none, none, none]) (W1 := Same H) ?_ rfl (fun k d e => ?_) (fun _ w => w)
  · refine blk_lcH 2 (js := 1) (ps := psW i) (ps_lcH (jw := 3) (jf := 4) hp rfl rfl rfl hot nd rfl (Or.inl rfl) (Nat.le_of_ble_eq_true rfl) (Nat.le_of_ble_eq_true rfl) (by decide) (by decide) (by decide) (blkOk_by (N := n_w_word) (sc := defScope s_w_word) (by decide +kernel)) (fun _ _ _ _ _ => pgs_cons (pg_name nd rfl (Or.inl rfl)) (pgs_cons (pg_name nd rfl (Or.inl rfl)) pgs_nil)) (fun _ _ => ⟨rfl, rfl⟩) (fun _ _ _ _ _ => pt_val (pe_var rfl (Or.inl rfl))) (fun _ _ _ _ _ => pe_var rfl (Or.inl rfl))) rfl (Nat.le_of_ble_eq_true rfl) st ?_
    rw [psW_one i hi]
    refine blk_if (et_w (ew_orF (et_is (et_not (et_val (ev_bi (eva_cons (ev_name 0) (eva_cons (ev_glob (v := .ref A.ink) (d := .ref A.ink) T.ink rfl (fun _ _ => rfl)) eva_nil)) (co_isP wd.exc hp hz hf wd.ink) st T.zisi boot_isinstance))) rfl) (ew_one_or (et_is (et_not (et_val (ev_bi (eva_cons (ev_name 0) (eva_cons (ev_cls T.zve boot_ve) eva_nil)) (co_isPT wd.exc hp hz hf wd.ve) st T.zisi boot_isinstance))) rfl)))) (fun h => Bool.noConfusion h) (fun _ => blk_on ?_)
    refine blk_ret (ev_is (ev_join1 (w := wordL.getD i Str.empty) (ev_name 2) (by have := wordL_len i hi; show _ + 1 ≤ 1000; omega)) (congrArg Ink.D.str (join_self i hi))) fun v H' so w q => ?_
    cases (show v = .str (wordL.getD i Str.empty) from q)
    exact hQ H' w
  · match k, e with
    | 0, e => exact e
    | 1, e => exact e
    | 2, e => cases e
    | 3, e => cases e
    | 4, e => cases e
    | k + 5, e => simp at e
/-- what is promised of a call of it within a suite -/
def WordRun (B : Bs) (A : Ad) (f : Addr) (fd : FuncData) : Prop := ∀ (Ar : Around) (outer : List Env) (s : Shared) (H : Hp) (args : Args) (us : List Value) (Q : VK) (E : XK) (p : Addr × Obj) (D : Addr) (i : Nat), L2H.RoomH 1 Ar → L2H.Hot1 Ar p → L2H.PinOk outer H s p → Env0 B.P B.w B.K B.mg B.base Ar outer s H →
  BindsTo s fd args ((["_law_e"] : List Str).zip us) → Vals [.ref p.1] us → WdC B A D i → i < 13 → Zc (.ref D) none p.2 → (∃ vs, p.2.data = .fields vs) → (∀ H', Same H H' → Q (.str (wordL.getD i Str.empty)) H') → codeAny (model B.P B.w) Ar (.call (.ref f) args) (CR (CXN B) outer B.P B.w H s Q E) s
def KwE (B : Bs) (A : Ad) : Prop := ∃ f fd, B.mg "_law_word" = some (.ref f) ∧ PySem.W.keepIn B.K (.ref f) = true ∧ Binds B.K fd ["_law_e"] [] ∧ WordRun B A f fd
theorem ok_word {B : Bs} {A : Ad} (W : TxtW B A) : KwE B A := by
  obtain ⟨f, fd, F, m⟩ := W.d_word
  obtain ⟨oc, od, kV, doc, pm, an, cdv, ct, osl, e, lk, hcd⟩ := F.ex
  refine ⟨f, fd, m, F.kp, F.binds fun _ _ _ _ _ _ us hl => match us, hl with | [_], _ => rfl, ?_⟩
  subst e
  intro Ar outer s H args us Q E p D i hr hot pin e0 bind rel wd hi hz hf hQ
  have kin : B.K.In s.heap := e0.mod.kin.keeps fun b o g => (e0.bs b o g).1
  have nolim := e0.mod.nolimit.keeps fun b o g => (e0.bs b o g).1
  have kinds : ∀ y ∈ (["_law_e"] : List Str).zip us, (defScope s_w_word).names.lookup y.1 = some .local ∨ ((defScope s_w_word).names.lookup y.1 = some .cell ∧ ((cellsFrom (s.heap.objs.size + 1) (defScope s_w_word).names []).lookup y.1).isSome = true) := fun ⟨y, v⟩ hy => by
    have h1 := (List.of_mem_zip hy).1
    rw [List.mem_singleton] at h1
    subst h1
    exact .inl rfl
  refine codeAny_call_function hr.depth (kin _ _ lk) rfl c_w_word.co c_w_word.gen rfl (PySem.W.codeRec_of kin hcd) (bind _ _ _ _ (wpAny_newFunctionEnv_cells c_w_word.kind kinds fun env he s1 x => ?_))
  subst he
  refine ⟨nolim.keeps x.toInCall.keep, codeAny_func ?_⟩
  have I : Inv (cxW B f cdv Ar outer s H E p) [] (L2.start n_w_word [.ref p.1]) H s1 := L2H.inv_startH c_w_word pin e0 rfl rel x
  refine wpAny_mono (wb_pss.run [] s1 _ H _ I (word_body W wd hi hot hz hf hQ)) (fun fl s' hs => ?_) fun _ _ z => z
  cases fl with
  | ret u =>
    obtain ⟨v, σ', H', J, rv, q⟩ := hs
    exact ⟨v, H', J.os, J.bare, J.base, J.hok, rv, q⟩
  | next =>
    obtain ⟨σ', H', J, q⟩ := hs
    exact ⟨.non, H', J.os, J.bare, J.base, J.hok, rfl, q⟩
  | brk =>
    obtain ⟨_, _, _, q⟩ := hs
    exact False.elim q
  | cont =>
    obtain ⟨_, _, _, q⟩ := hs
    exact False.elim q
end Ink
/-! Ink27 -/
/-! try: .. except InkError as e: return _law_word(e). -/
namespace Ink
open PySem PySem.Spec PyProof.Rows L2
/-- an error whose word is w -/
def ErrW (B : Bs) (A : Ad) (c : Addr) (w : Str) : Prop := ∃ j, j < 13 ∧ WdC B A c j ∧ PySem.W.exmOne B.K (.ref c) (.ref A.ink) = some true ∧ w = wordL.getD j Str.empty
def Refd (B : Bs) (A : Ad) (rt : VK) : Addr → Hp → Prop := fun c H => ∃ w, ErrW B A c w ∧ ∀ H2, Same H H2 → rt (.str w) H2
def tWord (i : Nat) (a : Addr) (w : Str) : TE := fun σ H Q => σ[i]? = some (some (.ref a)) ∧ ∀ H2, Same H H2 → Q (.str w) H2
section
variable {X : Cx} {S : Set'} {G : Gm} {W : As} {A : Ad} {body rest : List Stmt} {E : Ends}
theorem pe_word {a D : Addr} {oe : Obj} {pn : List (Addr × Obj)} {i j : Nat} {pq pa pc : Pos} (KW : KwE (bsOf X) A) (hr : Room 1 X.A) (hi : X.N[i]? = some "_law_e") (hv : Vis X.env.scope "_law_e") (hz : L2N.Zn (.ref D) none oe) (hf : ∃ vs, oe.data = .fields vs) (wd : WdC (bsOf X) A D j) (hj : j < 13) (hg : Gl X "_law_word")
    (he : starEach [.Name "_law_e" pa] X.env = (false, eval (.Name "_law_e" pa) X.env) :: starEach [] X.env) (hpl : (backTo pc (starEach [] X.env)).any (·.1) = false) :
    PE (X.suite a ((a, oe) :: pn)) (.Call (.Name "_law_word" pq) [.Name "_law_e" pa] [] pc) (tWord i a (wordL.getD j Str.empty)) := by
  obtain ⟨f, fd, hm, hk, hb, run⟩ := KW
  refine ⟨fun pins s σ H Q I h => ?_⟩
  obtain ⟨hσ, hQ⟩ := h
  refine wpAny_Call_Name_kw (ld_glob I hg hm ?_ (by decide))
  refine PySem.W.callWith_K (h₀ := X.base) I.ok.mod.kin hk (thn ((pa_cons (X := X.suite a ((a, oe) :: pn)) (pe_var hi hv) pa_nil he).run pc pins s σ H (fun vs H' => vs = [.ref a] ∧ H' = H) I ⟨_, hσ, rfl, rfl⟩) fun us s1 ⟨vs, H1, I1, rel, e1, e2⟩ => ⟨I1.kIn, ?_⟩) he hpl
  subst e1 e2
  have P1 := I1.pin (a, oe) (List.mem_append_left _ List.mem_cons_self)
  have hl : us.length = 1 := rel.length.symm
  have bd := hb s1 us I1.kIn (by rw [List.append_nil]; exact hl)
  rw [List.append_nil] at bd
  obtain ⟨vs, hvs⟩ := hf
  refine wpAny_call (codeAny_mono (run _ _ s1 _ ⟨us, []⟩ us Q (fun _ _ _ => False) (a, oe) D j ⟨hr.dp, hr.un⟩ ⟨rfl, vs, hvs, hz.2.2 vs hvs⟩ ⟨P1.1, P1.2.1, fun z => (List.mem_cons.mp (I1.stkSub a z)).elim P1.2.2.1 P1.2.2.2.1, P1.2.2.2.2⟩ I1.env0 bd rel wd hj (L2N.Zn.zc hz) ⟨vs, hvs⟩ hQ) fun r s' hq => ?_)
  cases r with
  | error e => exact pass_f (X := X.suite a ((a, oe) :: pn)) (σ := σ) pins _ s1 e s' I1 hq
  | ok fl =>
    cases fl with
    | ret u => exact I1.after hq
    | next => exact False.elim hq
    | brk => exact False.elim hq
    | cont => exact False.elim hq
/-- the whole statement -/
theorem blk_refuse (i : Nat) {np pq pa pc rp pos' pos : Pos} (KW : KwE (bsOf X) A) (hr : Room 1 X.A) (hink : X.mg "InkError" = some (.ref A.ink)) (hN : X.N.Nodup)
    (k : ∀ (pn : List (Addr × Obj)) (xe : Value → Shared → Prop), Tk (X.tr pn xe) (Refd (bsOf X) A E.rt) → PassesOwn (model X.prog X.w) X.A X.env xe → Blk (X.tr pn xe) S body (Ends.on E X rest) G W)
    (hi : X.N[i]? = some "_law_e" := by rfl) (hln : X.env.kindOf "_law_e" = some .local := by rfl) (hv : Vis X.env.scope "_law_e" := by exact Or.inl rfl) (hg : Gl X "_law_word" := by rfl) (hgi : Gl X "InkError" := by rfl) (hs : X.stack = X.env :: X.outer := by rfl) (hf : X.env.frame = some X.env.locals := by rfl)
    (he : starEach [.Name "_law_e" pa] X.env = (false, eval (.Name "_law_e" pa) X.env) :: starEach [] X.env := by rfl) (hpl : (backTo pc (starEach [] X.env)).any (·.1) = false := by rfl) :
    Blk X S (.Try body [.ExceptHandler (some (.Name "InkError" np)) (some "_law_e") [.Return (some (.Call (.Name "_law_word" pq) [.Name "_law_e" pa] [] pc)) rp] pos'] [] [] pos :: rest) E G W := fun σ H ty so w => by
  refine ⟨_, pss_cons (L2N.ps_try_as (i := i) (tb := fun Wx D σ H => ∀ (pn : List (Addr × Obj)) (xe : Value → Shared → Prop), L2N.Takes (X.tr pn xe) Wx → PassesOwn (model X.prog X.w) X.A X.env xe → WB (X.tr pn xe) body D σ H)
    (ts := fun a cls d D σ H => σ[i]? = some (some (.ref a)) ∧ ∃ Dc j, cls = .ref Dc ∧ d = none ∧ j < 13 ∧ WdC (bsOf X) A Dc j ∧ ∀ H2, Same H H2 → D.rt (.str (wordL.getD j Str.empty)) H2) hs hf hN hi hln ⟨hgi, by decide, .inl hink⟩ takes_no
    (fun Wx pn xe t po => ⟨fun pins s σ H D I z => (wb_pss (X := X.tr pn xe) (st := body)).run pins s σ H D I (z pn xe t po)⟩)
    (fun a oe cls d pn hz hf2 => ⟨fun pins s σ H D I z => ?_⟩)) wb_pss, ?_⟩
  · obtain ⟨hσ, Dc, j, rfl, rfl, hj, wd, hQ⟩ := z
    exact (pss_one (ps_ret (pe_word (i := i) (pn := pn) KW hr hi hv hz hf2 wd hj hg he hpl))).run pins s σ H D I ⟨hσ, hQ⟩
  · intro pn xe t po
    refine k pn xe ⟨_, t, fun c σ' H' hlen hc => ?_⟩ po σ H ty so w
    obtain ⟨w2, ⟨j, hj, wd, hx, rfl⟩, hQ⟩ := hc
    exact ⟨true, hx, fun _ a na => ⟨List.getElem?_set_self (by rw [hlen]; exact (List.getElem?_eq_some_iff.mp hi).1), c, j, rfl, rfl, hj, wd, hQ⟩, fun z => Bool.noConfusion z⟩
end
end Ink
/-! Ink28 -/
/-! The law's defs that tell a refusal's word. -/
namespace Ink
open PySem PySem.Spec PyProof.Rows L2
local macro_rules | `(tactic| walk_at "op") => `(tactic| first
  | exact bo_add | exact bo_sub | exact bo_lt | exact bo_le | exact bo_gt | exact bo_ge | exact bo_eqI | exact bo_neI | exact bo_eqS | exact bo_neS | exact bo_in2 | exact bo_eq | exact bo_ne)
section
variable {B : Bs} {A : Ad}
theorem ew_text (W : TxtW B A) : ErrW B A A.text "text" := ⟨0, by decide, W.text, W.T.xmi _ (by simp), rfl⟩
theorem ew_change (W : TxtW B A) : ErrW B A A.change "change" := ⟨1, by decide, W.change, W.T.xmi _ (by simp), rfl⟩
theorem ew_fit (W : TxtW B A) : ErrW B A A.fit "fit" := ⟨2, by decide, W.fit, W.T.xmi _ (by simp), rfl⟩
theorem ew_letter (W : TxtW B A) : ErrW B A A.letter "letter" := ⟨9, by decide, W.letter, W.T.xmi _ (by simp), rfl⟩
theorem ew_gone (W : TxtW B A) : ErrW B A A.gone "gone" := ⟨10, by decide, W.gone, W.T.xmi _ (by simp), rfl⟩
theorem ew_hand (W : TxtW B A) : ErrW B A A.hand "hand" := ⟨11, by decide, W.hand, W.T.xmi _ (by simp), rfl⟩
/-- the word that tells how something ended -/
def Told (B : Bs) (A : Ad) (rc : Res) (w : Str) : Prop := match rc with
  | .ok _ => w = emp
  | .exc c => ErrW B A c w
theorem take_adr {m ds r m'} (h : R_take A m ds r m') : m'.map (·.1) = m.map (·.1) := by
  obtain ⟨sv, t, q, x, hh, k, ch, rfl, _, _, _, _, ⟨l, _, _, _, _, ⟨y, _, _, rfl⟩ | ⟨_, _, rfl⟩⟩ | ⟨c, n, w, tk, _, _, _, _, _, _, _, rfl⟩⟩ := h <;> rfl
theorem came_adr {m ds r m'} (h : R_came A m ds r m') : m'.map (·.1) = m.map (·.1) := by
  obtain ⟨sv, t, q, x, d, rfl, _, _, hc⟩ := h
  rcases hc with ⟨_, _, _, _, _, _, _, rfl⟩ | ⟨_, _, _, rfl⟩ | ⟨_, _, _, _, _, _, _, _, _, _, _, ⟨_, _, rfl⟩ | ⟨_, ⟨x', _, _, _, rfl, _⟩ | ⟨c, _, rfl, _⟩⟩⟩
  all_goals rfl
theorem do_adr {m ds r m'} (h : R_hddo A m ds r m') : m'.map (·.1) = m.map (·.1) := by
  obtain ⟨hd, kp, own, held, kn, se, fl, d, rfl, _, _, _, _, hc⟩ := h
  rcases hc with ⟨_, _, rfl⟩ | ⟨l, _, _, ⟨_, _, rfl⟩ | ⟨y, _, ⟨_, _, rfl⟩ | ⟨l0, _, _, rfl⟩⟩⟩
  all_goals rfl
theorem hcame_adr {m ds r m'} (h : R_hdcame A m ds r m') : m'.map (·.1) = m.map (·.1) := by
  obtain ⟨hd, kp, own, held, kn, se, fl, d, rfl, _, hc⟩ := h
  rcases hc with ⟨_, _, _, rfl⟩ | ⟨w, c, _, _, _, _, _, _, ⟨_, _, _, rfl⟩ | ⟨_, _, _, rfl⟩ | ⟨_, l, fl', y, _, _, _, _, _, _, _, rfl⟩⟩
  all_goals rfl
def R_srvref (B : Bs) (A : Ad) : Trm := fun m ds r m' => ∃ rc w, R_came A m ds rc m' ∧ Told B A rc w ∧ r = .ok (.str w)
theorem ok_srvref (W : TxtW B A) : Ko B "_law_server_refused" 8 2 (R_srvref B A) := by
  have T := W.T
  obtain ⟨f, fd, F, m⟩ := T.d_w_server_refused
  have k_came := ok_sv_came T
  refine ko_of F m (F.binds fun _ _ _ _ _ _ us hl => match us, hl with | [_, _], _ => rfl) c_w_server_refused rfl (by decide) fun cdv A' outer s H Q E hr S m ds r m' hl hR hS hp => ?_
  obtain ⟨rc, w, hc, hw, rfl⟩ := hR
  have ea := came_adr hc
  obtain ⟨sv, t, q, x, d, rfl, hx, rfl, _⟩ := id hc
  refine blk_refuse 2 (ok_word W) (hr.mono (by decide)) T.ink c_w_server_refused.nd fun pn xe tk po => ?_
  cases rc with
  | ok dd =>
    cases (show w = emp from hw)
    refine blk_expr (ev_methO [] [] (svM A sv t q x) m' 0 k_came T.srv.cl hr (ev_name 0) (eva_cons (ev_name 1) eva_nil) hc rfl (by decide +kernel) rfl (List.append_nil m').symm ea) (blk_on ?_)
    exact blk_retO hp ev_str rfl
  | exc c => exact blk_exprX tk (evx_methO [] [] (svM A sv t q x) m' 0 k_came T.srv.cl hr (ev_name 0) (eva_cons (ev_name 1) eva_nil) hc rfl (by decide +kernel) rfl (List.append_nil m').symm ea) fun H' so w1 => ⟨w, hw, fun H2 e => hp _ H2 (w1.k.trans (Same.kept e)) (w1.o.same e) rfl⟩
def R_hdref (B : Bs) (A : Ad) : Trm := fun m ds r m' => ∃ rc w, R_hdcame A m ds rc m' ∧ Told B A rc w ∧ r = .ok (.str w)
theorem ok_hdref (W : TxtW B A) : Ko B "_law_hand_refused" 8 2 (R_hdref B A) := by
  have T := W.T
  obtain ⟨f, fd, F, m⟩ := T.d_w_hand_refused
  have k_came := ok_hd_came T
  refine ko_of F m (F.binds fun _ _ _ _ _ _ us hl => match us, hl with | [_, _], _ => rfl) c_w_hand_refused rfl (by decide) fun cdv A' outer s H Q E hr S m ds r m' hl hR hS hp => ?_
  obtain ⟨rc, w, hc, hw, rfl⟩ := hR
  have ea := hcame_adr hc
  obtain ⟨hd, kp, own, held, kn, se, fl, d, rfl, rfl, _⟩ := id hc
  refine blk_refuse 2 (ok_word W) (hr.mono (by decide)) T.ink c_w_hand_refused.nd fun pn xe tk po => ?_
  cases rc with
  | ok dd =>
    cases (show w = emp from hw)
    refine blk_expr (ev_methO [] [] (hdM A hd kp ⟨own, held, kn, se, fl, .non⟩ .dk0) m' 0 k_came T.hnd.cl hr (ev_name 0) (eva_cons (ev_name 1) eva_nil) hc rfl (by decide +kernel) rfl (List.append_nil m').symm ea) (blk_on ?_)
    exact blk_retO hp ev_str rfl
  | exc c => exact blk_exprX tk (evx_methO [] [] (hdM A hd kp ⟨own, held, kn, se, fl, .non⟩ .dk0) m' 0 k_came T.hnd.cl hr (ev_name 0) (eva_cons (ev_name 1) eva_nil) hc rfl (by decide +kernel) rfl (List.append_nil m').symm ea) fun H' so w1 => ⟨w, hw, fun H2 e => hp _ H2 (w1.k.trans (Same.kept e)) (w1.o.same e) rfl⟩
def R_doref (B : Bs) (A : Ad) : Trm := fun m ds r m' => ∃ rc w, R_hddo A m ds rc m' ∧ Told B A rc w ∧ r = .ok (.str w)
theorem ok_doref (W : TxtW B A) : Ko B "_law_change_refused" 6 2 (R_doref B A) := by
  have T := W.T
  obtain ⟨f, fd, F, m⟩ := T.d_w_change_refused
  have k_do := ok_hd_do T
  refine ko_of F m (F.binds fun _ _ _ _ _ _ us hl => match us, hl with | [_, _], _ => rfl) c_w_change_refused rfl (by decide) fun cdv A' outer s H Q E hr S m ds r m' hl hR hS hp => ?_
  obtain ⟨rc, w, hc, hw, rfl⟩ := hR
  have ea := do_adr hc
  obtain ⟨hd, kp, own, held, kn, se, fl, d, rfl, rfl, _⟩ := id hc
  refine blk_refuse 2 (ok_word W) (hr.mono (by decide)) T.ink c_w_change_refused.nd fun pn xe tk po => ?_
  cases rc with
  | ok dd =>
    cases (show w = emp from hw)
    refine blk_expr (ev_methO [] [] (hdM A hd kp ⟨own, held, kn, se, fl, .non⟩ .dk0) m' 0 k_do T.hnd.cl hr (ev_name 0) (eva_cons (ev_name 1) eva_nil) hc rfl (by decide +kernel) rfl (List.append_nil m').symm ea) (blk_on ?_)
    exact blk_retO hp ev_str rfl
  | exc c => exact blk_exprX tk (evx_methO [] [] (hdM A hd kp ⟨own, held, kn, se, fl, .non⟩ .dk0) m' 0 k_do T.hnd.cl hr (ev_name 0) (eva_cons (ev_name 1) eva_nil) hc rfl (by decide +kernel) rfl (List.append_nil m').symm ea) fun H' so w1 => ⟨w, hw, fun H2 e => hp _ H2 (w1.k.trans (Same.kept e)) (w1.o.same e) rfl⟩
def R_numref (B : Bs) (A : Ad) : Trq := fun m ds r => ∃ rc w, R_svchange A m ds rc ∧ Told B A rc w ∧ r = .ok (.str w)
theorem ok_numref (W : TxtW B A) : Kq B "_law_number_refused" 4 2 (R_numref B A) := by
  have T := W.T
  obtain ⟨f, fd, F, m⟩ := T.d_w_number_refused
  have k_change := ok_sv_change T
  refine kq_of F m (F.binds fun _ _ _ _ _ _ us hl => match us, hl with | [_, _], _ => rfl) c_w_number_refused rfl (by decide) fun cdv A' outer s H Q E hr S m ds r hl hR hp => ?_
  obtain ⟨rc, w, hc, hw, rfl⟩ := hR
  obtain ⟨sv, t, q, x, d, rfl, hx, rfl, _⟩ := id hc
  refine blk_refuse 2 (ok_word W) (hr.mono (by decide)) T.ink c_w_number_refused.nd fun pn xe tk po => ?_
  cases rc with
  | ok dd =>
    cases (show w = emp from hw)
    refine blk_expr (ev_methQ 0 (fun _ w => w.2) stb_QW k_change T.srv.cl hr (ev_name 0) (eva_cons (ev_name 1) eva_nil) hc) (blk_on ?_)
    exact blk_retR hp ev_str rfl fun _ w => w.1
  | exc c => exact blk_exprX tk (evx_methQ 0 (fun _ w => w.2) stb_QW k_change T.srv.cl hr (ev_name 0) (eva_cons (ev_name 1) eva_nil) hc) fun H' so w1 => ⟨w, hw, fun H2 e => hp _ H2 (w1.1.trans e) rfl⟩
def badT (d : D) : Prop := nr d = true ∧ smallD d ∧ textD d = false
def R_made (ds : List D) (r : Res) : Prop := ∃ (w : Int) (d : D), ds = [.int w, d] ∧
  ((w = 0 ∧ badT d ∧ r = .ok (.str "text")) ∨ (w = 1 ∧ nr d = true ∧ numB d 1 8 = false ∧ r = .ok (.str "hand")) ∨ (w = 2 ∧ nr d = true ∧ numB d 0 7 = false ∧ r = .ok (.str "hand")) ∨ (w = 3 ∧ badT d ∧ r = .ok (.str "text")))
theorem ok_made (W : TxtW B A) : Kn B "_law_made_refused" 5 2 R_made := by
  have T := W.T
  obtain ⟨f, fd, F, m⟩ := T.d_w_made_refused
  have k_svi := ok_sv_init T
  have k_hdi := ok_hd_init T
  refine kn_of F m (F.binds fun _ _ _ _ _ _ us hl => match us, hl with | [_, _], _ => rfl) c_w_made_refused rfl (by decide) fun cdv A' outer s H Q E S ds r hr hl hR hp => ?_
  have st : Stb (Same H) := stb_same
  obtain ⟨w, d, rfl, hc⟩ := hR
  refine blk_refuse 2 (ok_word W) (hr.mono (by decide)) T.ink c_w_made_refused.nd fun pn xe tk po => ?_
  rcases hc with ⟨rfl, ⟨h1, h2, h3⟩, rfl⟩ | ⟨rfl, h1, h2, rfl⟩ | ⟨rfl, h1, h2, rfl⟩ | ⟨rfl, ⟨h1, h2, h3⟩, rfl⟩
  · refine blk_if1 (et_is (et_cmp (ev_name 0) ev_int (by walk_at "op") st) (decide_eq_true rfl)) (fun _ => ?_) (fun h => Bool.noConfusion h)
    exact blk_exprX tk (evx_make (j := 3) (mk := fun _ _ => []) k_svi hr T.srv.g (eva_cons (ev_name 1) (eva_cons ev_int eva_nil)) st (.inl ⟨_, _, rfl, h1, h2, h3, rfl⟩)) fun H' so w1 => ⟨_, ew_text W, fun H2 e => hp _ H2 (w1.trans e) rfl⟩
  · refine blk_if1 (et_is (et_cmp (ev_name 0) ev_int (by walk_at "op") st) (decide_eq_false (by decide))) (fun h => Bool.noConfusion h) (fun _ => ?_)
    refine blk_if1 (et_is (et_cmp (ev_name 0) ev_int (by walk_at "op") st) (decide_eq_true rfl)) (fun _ => ?_) (fun h => Bool.noConfusion h)
    exact blk_exprX tk (evx_make (j := 3) (mk := fun _ _ => []) k_svi hr T.srv.g (eva_cons ev_str (eva_cons (ev_name 1) eva_nil)) st (.inr (.inl ⟨_, _, rfl, by decide, by decide +kernel, h1, h2, rfl⟩))) fun H' so w1 => ⟨_, ew_hand W, fun H2 e => hp _ H2 (w1.trans e) rfl⟩
  · refine blk_if1 (et_is (et_cmp (ev_name 0) ev_int (by walk_at "op") st) (decide_eq_false (by decide))) (fun h => Bool.noConfusion h) (fun _ => ?_)
    refine blk_if1 (et_is (et_cmp (ev_name 0) ev_int (by walk_at "op") st) (decide_eq_false (by decide))) (fun h => Bool.noConfusion h) (fun _ => ?_)
    refine blk_if1 (et_is (et_cmp (ev_name 0) ev_int (by walk_at "op") st) (decide_eq_true rfl)) (fun _ => ?_) (fun h => Bool.noConfusion h)
    exact blk_exprX tk (evx_make (j := 3) (mk := fun _ _ => []) k_hdi hr T.hnd.g (eva_cons (ev_name 1) (eva_cons ev_str eva_nil)) st (.inl ⟨_, _, rfl, h1, h2, rfl⟩)) fun H' so w1 => ⟨_, ew_hand W, fun H2 e => hp _ H2 (w1.trans e) rfl⟩
  · refine blk_if1 (et_is (et_cmp (ev_name 0) ev_int (by walk_at "op") st) (decide_eq_false (by decide))) (fun h => Bool.noConfusion h) (fun _ => ?_)
    refine blk_if1 (et_is (et_cmp (ev_name 0) ev_int (by walk_at "op") st) (decide_eq_false (by decide))) (fun h => Bool.noConfusion h) (fun _ => ?_)
    refine blk_if1 (et_is (et_cmp (ev_name 0) ev_int (by walk_at "op") st) (decide_eq_false (by decide))) (fun h => Bool.noConfusion h) (fun _ => ?_)
    exact blk_exprX tk (evx_make (j := 3) (mk := fun _ _ => []) k_hdi hr T.hnd.g (eva_cons ev_int (eva_cons (ev_name 1) eva_nil)) st (.inr (.inl ⟨1, _, rfl, by decide, by decide, h1, h2, h3, rfl⟩))) fun H' so w1 => ⟨_, ew_text W, fun H2 e => hp _ H2 (w1.trans e) rfl⟩
def R_first (ds : List D) (r : Res) : Prop := ∃ (w : Int) (d : D), ds = [.int w, d] ∧ badT d ∧ ((w = 0 ∧ r = .ok (.str "text")) ∨ (w = 1 ∧ r = .ok (.str "hand")))
theorem ok_first (W : TxtW B A) : Kn B "_law_first_refused" 5 2 R_first := by
  have T := W.T
  obtain ⟨f, fd, F, m⟩ := T.d_w_first_refused
  have k_svi := ok_sv_init T
  have k_hdi := ok_hd_init T
  refine kn_of F m (F.binds fun _ _ _ _ _ _ us hl => match us, hl with | [_, _], _ => rfl) c_w_first_refused rfl (by decide) fun cdv A' outer s H Q E S ds r hr hl hR hp => ?_
  have st : Stb (Same H) := stb_same
  obtain ⟨w, d, rfl, ⟨h1, h2, h3⟩, hc⟩ := hR
  refine blk_refuse 2 (ok_word W) (hr.mono (by decide)) T.ink c_w_first_refused.nd fun pn xe tk po => ?_
  rcases hc with ⟨rfl, rfl⟩ | ⟨rfl, rfl⟩
  · refine blk_if1 (et_is (et_cmp (ev_name 0) ev_int (by walk_at "op") st) (decide_eq_true rfl)) (fun _ => ?_) (fun h => Bool.noConfusion h)
    exact blk_exprX tk (evx_make (j := 3) (mk := fun _ _ => []) k_svi hr T.srv.g (eva_cons (ev_name 1) (eva_cons ev_int eva_nil)) st (.inl ⟨_, _, rfl, h1, h2, h3, rfl⟩)) fun H' so w1 => ⟨_, ew_text W, fun H2 e => hp _ H2 (w1.trans e) rfl⟩
  · refine blk_if1 (et_is (et_cmp (ev_name 0) ev_int (by walk_at "op") st) (decide_eq_false (by decide))) (fun h => Bool.noConfusion h) (fun _ => ?_)
    exact blk_exprX tk (evx_make (j := 3) (mk := fun _ _ => []) k_hdi hr T.hnd.g (eva_cons ev_int (eva_cons (ev_name 1) eva_nil)) st (.inl ⟨_, _, rfl, rfl, by decide, rfl⟩)) fun H' so w1 => ⟨_, ew_hand W, fun H2 e => hp _ H2 (w1.trans e) rfl⟩
end
end Ink
/-! Ink29 -/
/-! The law's defs that make letters. -/
namespace Ink
open PySem PySem.Spec PyProof.Rows L2
theorem ix_mod {X : Cx} {l : List D} {z : Int} (n : Int) (h : (l.length : Int) = n) (h0 : 0 < n) : IxO X (.lst l) (.int (z % n)) (l.getD (z % n).toNat .non) := by
  have h1 := Int.emod_nonneg z (show n ≠ 0 by omega)
  have h2 := Int.emod_lt_of_pos z h0
  have h3 : (z % n).toNat < l.length := by omega
  exact io_lst (atI_of (n := (z % n).toNat) (Int.toNat_of_nonneg h1).symm (getD_of D.non h3))
local macro_rules | `(tactic| walk_at "op") => `(tactic| first
  | exact bo_add | exact bo_sub | exact bo_mod (by decide) | exact bo_fdiv (by decide) | exact bo_lt | exact bo_le | exact bo_gt | exact bo_ge | exact bo_eqI | exact bo_neI | exact bo_eqS | exact bo_neS | exact bo_in2 | exact bo_pow (by decide) | exact bo_addL (Nat.le_of_ble_eq_true rfl) | exact bo_eq | exact bo_ne)
local macro_rules | `(tactic| walk_at "bi") => `(tactic| first
  | exact co_len_lst | exact co_len_tup | exact co_len_str (by assumption) | exact co_intB | exact co_list_lst)
local macro_rules | `(tactic| walk_at "ix") => `(tactic| first | exact io_tup rfl | exact io_lst rfl | exact ix_mod 5 rfl (by decide) | exact ix_mod 6 rfl (by decide) | exact ix_mod 11 rfl (by decide) | exact ix_mod 16 rfl (by decide))
theorem ev_dct {X : Cx} {S : Set'} {G : Gm} {W : As} {pos : Pos} (hs : Stb W) : Ev X S (.Dict [] [] pos) G W .dct W := fun σ H ty so w Q q =>
  ⟨_, pe_dnewK, fun p hp => q _ _ (Same.kept (Same.new hp)) (hs _ _ w (Same.new hp)) ⟨p, rfl, so.new hp, upd_same⟩⟩
section
variable {B : Bs} {A : Ad}
/-! the script's cells -/
def R_cell (ds : List D) (r : Res) : Prop := ∃ (l : List Int) (k : Nat), ds = [.lst (l.map D.int), .int (k : Int)] ∧ r = .ok (.int (l.getD k 0))
theorem ok_cell (T : Txt B A) : Kn B "_law_cell_at" 1 2 R_cell := by
  obtain ⟨f, fd, F, m⟩ := T.d_w_cell_at
  refine kn_of F m (F.binds fun _ _ _ _ _ _ us hl => match us, hl with | [_, _], _ => rfl) c_w_cell_at rfl (by decide) fun cdv A' outer s H Q E S ds r hr hl hR hp => ?_
  have st : Stb (Same H) := stb_same
  obtain ⟨l, k, rfl, rfl⟩ := hR
  by_cases c : k < l.length
  · refine blk_if (et_is (et_cmp (ev_name 1) (ev_bi (eva_cons (ev_name 0) eva_nil) (by walk_at "bi") st T.zlen boot_len) (by walk_at "op") st) (decide_eq_true (by rw [List.length_map]; omega))) (fun _ => ?_) (fun h => Bool.noConfusion h)
    exact blk_retR hp (ev_ix (ev_name 0) (ev_name 1) (io_lst (d := .int (l.getD k 0)) (atI_of (n := k) rfl (by rw [List.getElem?_map, getD_of 0 c]; rfl)))) rfl fun _ w => w
  · refine blk_if (et_is (et_cmp (ev_name 1) (ev_bi (eva_cons (ev_name 0) eva_nil) (by walk_at "bi") st T.zlen boot_len) (by walk_at "op") st) (decide_eq_false (by rw [List.length_map]; omega))) (fun h => Bool.noConfusion h) (fun _ => blk_on ?_)
    exact blk_retR hp ev_int (by rw [List.getD_eq_getElem?_getD, List.getElem?_eq_none (by omega)]; rfl) fun _ w => w
/-! what is no change -/
def noChL : List D := [.non, .str keepS, .tup [.tup [.str keepS, .int 1]], .lst [keepP 0], .lst [putP emp], .lst [keepP 1, keepP 1], .lst [.lst [.str keepS, .int 1]], .lst [cutP "a", putP "b"], .lst [.tup [.str keepS, .bl true]], .lst [.tup [.str "take", .int 1]], .lst [putP "\t"]]
def noCh (i : Int) : D := noChL.getD (i % 11).toNat .non
theorem noCh_bad (i : Int) : okCh (noCh i) = true ∧ changeD (noCh i) = false := by
  have h : ∀ k, k < 11 → okCh (noChL.getD k .non) = true ∧ changeD (noChL.getD k .non) = false := by decide +kernel
  exact h _ (by have := Int.emod_nonneg i (show (11 : Int) ≠ 0 by decide); have := Int.emod_lt_of_pos i (show (0 : Int) < 11 by decide); omega)
def R_noch (ds : List D) (r : Res) : Prop := ∃ i : Int, ds = [.int i] ∧ r = .ok (noCh i)
theorem ok_noch (T : Txt B A) : Kn B "_law_no_change" 1 1 R_noch := by
  obtain ⟨f, fd, F, m⟩ := T.d_w_no_change
  refine kn_of F m (F.binds fun _ _ _ _ _ _ us hl => match us, hl with | [_], _ => rfl) c_w_no_change rfl (by decide) fun cdv A' outer s H Q E S ds r hr hl hR hp => ?_
  have st : Stb (Same H) := stb_same
  have nd := c_w_no_change.nd
  obtain ⟨i, rfl, rfl⟩ := hR
  refine blk_set 1 (ev_lst (eva_cons ev_non (eva_cons ev_str (eva_cons (ev_tup (eva_cons (ev_tup (eva_cons ev_str (eva_cons ev_int eva_nil)) st) eva_nil) st) (eva_cons (ev_lst (eva_cons (ev_tup (eva_cons ev_str (eva_cons ev_int eva_nil)) st) eva_nil) st) (eva_cons (ev_lst (eva_cons (ev_tup (eva_cons ev_str (eva_cons ev_str eva_nil)) st) eva_nil) st) (eva_cons (ev_lst (eva_cons (ev_tup (eva_cons ev_str (eva_cons ev_int eva_nil)) st) (eva_cons (ev_tup (eva_cons ev_str (eva_cons ev_int eva_nil)) st) eva_nil)) st) (eva_cons (ev_lst (eva_cons (ev_lst (eva_cons ev_str (eva_cons ev_int eva_nil)) st) eva_nil) st) eva_nil))))))) st) ?_ nd
  exact blk_retR hp (ev_ix (ev_bin (ev_name 1) (ev_lst (eva_cons (ev_lst (eva_cons (ev_tup (eva_cons ev_str (eva_cons ev_str eva_nil)) st) (eva_cons (ev_tup (eva_cons ev_str (eva_cons ev_str eva_nil)) st) eva_nil)) st) (eva_cons (ev_lst (eva_cons (ev_tup (eva_cons ev_str (eva_cons ev_bl eva_nil)) st) eva_nil) st) (eva_cons (ev_lst (eva_cons (ev_tup (eva_cons ev_str (eva_cons ev_int eva_nil)) st) eva_nil) st) (eva_cons (ev_lst (eva_cons (ev_tup (eva_cons ev_str (eva_cons ev_str eva_nil)) st) eva_nil) st) eva_nil)))) st) (by walk_at "op") st) (ev_bin (ev_name 0) ev_int (by walk_at "op") st) (by walk_at "ix")) rfl fun _ w => w
/-! what is no ask -/
def noFar (h c : Int) : List D := [.int (h + c / 64 % 3), .int (-1 - c / 64 % 3), .bl true, .non, .str "0", .int (10 ^ 9)]
def goodR (n : Int) : D := .lst [keepP n]
def noAskL (h mny n c : Int) : List D := [
  .tup [.str askS, (noFar h c).getD (c / 16 % 6).toNat .non, .int 1, .int mny, goodR n], .tup [.str againS, (noFar h c).getD (c / 16 % 6).toNat .non, .int 0],
  .tup [.str askS, .int 0, [D.int 0, .int (-1), .bl true, .non, .str "1"].getD (c / 16 % 5).toNat .non, .int mny, goodR n],
  .tup [.str askS, .int 0, .int 1, [D.int (mny + 1), .int (-1), .bl true, .non, .str "0"].getD (c / 16 % 5).toNat .non, goodR n],
  .tup [.str againS, .int 0, [D.int (mny + 1 + c / 64 % 9), .int (-1), .bl true, .non, .str "0"].getD (c / 16 % 5).toNat .non],
  .tup [.str askS, .int 0, .int 1, .int mny, noCh (c / 16)], .tup [.str askS, .int 0, .int 1, .int mny], .tup [.str againS, .int 0], .tup [.str askS], .tup [],
  .tup [.str "asks", .int 0, .int 1, .int mny, goodR n], .tup [.int 1, .int 0, .int 0], .non, .str againS, .lst [.str againS, .int 0, .int 0], .tup [.str tookS, .int 0, .int 1, .int 0, goodR n]]
def noAsk (h mny n c : Int) : D := (noAskL h mny n c).getD (c % 16).toNat .non
theorem rep_good {n : Int} (h : 0 < n) : D.lst (List.replicate (if decide (0 < n) = true then (1 : Int) else 0).toNat (keepP n)) = goodR n := by
  rw [decide_eq_true h]
  rfl
def R_noask (A : Ad) (m : Ms) (ds : List D) (r : Res) : Prop := ∃ sv t q x h c, m = svM A sv t q x ∧ ds = [.ref sv, .int h, .int c] ∧ 0 < x.known.length ∧ x.known.length ≤ 60 ∧ r = .ok (noAsk h x.taken.length x.known.length c)
theorem ok_noask (T : Txt B A) : Kq B "_law_no_ask" 2 3 (R_noask A) := by
  obtain ⟨f, fd, F, m⟩ := T.d_w_no_ask
  have k_text := ok_sv_text T
  have k_many := ok_sv_many T
  have k_w_no_change := ok_noch T
  refine kq_of F m (F.binds fun _ _ _ _ _ _ us hl => match us, hl with | [_, _, _], _ => rfl) c_w_no_ask rfl (by decide) fun cdv A' outer s H Q E hr S m ds r hl hR hp => ?_
  obtain ⟨sv, t, q, x, h, c, rfl, rfl, h0, h60, rfl⟩ := hR
  have st : Stb (QW H S (svM A sv t q x)) := stb_QW
  have nd := c_w_no_ask.nd
  have hx : (Sx x.known).length ≤ 1000 := by
    rw [sx_len]
    omega
  refine blk_set 3 (ev_meth0Q 0 (fun _ w => w.2) st k_many T.srv.cl hr (ev_name 0) ⟨sv, t, q, x, rfl, rfl, rfl⟩) ?_ nd
  refine blk_set 4 (ev_is (ev_bi (eva_cons (ev_meth0Q 0 (fun _ w => w.2) st k_text T.srv.cl hr (ev_name 0) ⟨sv, t, q, x, rfl, rfl, rfl⟩) eva_nil) (by walk_at "bi") st T.zlen boot_len) (show D.int ((Sx x.known).length : Int) = .int (x.known.length : Int) by rw [sx_len])) ?_ nd
  refine blk_set 5 (ev_is (ev_bin (ev_lst (eva_cons (ev_tup (eva_cons ev_str (eva_cons (ev_name 4) eva_nil)) st) eva_nil) st) (ev_bt (eva_cons (ev_cmp (ev_name 4) ev_int (by walk_at "op") st) eva_nil) (by walk_at "bi") st T.zint boot_int) (bo_rep (by split <;> decide) (by split <;> decide)) st) (rep_good (by omega))) ?_ nd
  refine blk_set 6 (ev_lst (eva_cons (ev_bin (ev_name 1) (ev_bin (ev_bin (ev_name 2) ev_int (by walk_at "op") st) ev_int (by walk_at "op") st) (by walk_at "op") st) (eva_cons (ev_bin (ev_neg ev_int) (ev_bin (ev_bin (ev_name 2) ev_int (by walk_at "op") st) ev_int (by walk_at "op") st) (by walk_at "op") st) (eva_cons ev_bl (eva_cons ev_non (eva_cons ev_str (eva_cons (ev_bin ev_int ev_int (by walk_at "op") st) eva_nil)))))) st) ?_ nd
  refine blk_set 7 (ev_lst (eva_cons (ev_tup (eva_cons ev_str (eva_cons (ev_ix (ev_name 6) (ev_bin (ev_bin (ev_name 2) ev_int (by walk_at "op") st) ev_int (by walk_at "op") st) (by walk_at "ix")) (eva_cons ev_int (eva_cons (ev_name 3) (eva_cons (ev_name 5) eva_nil))))) st) (eva_cons (ev_tup (eva_cons ev_str (eva_cons (ev_ix (ev_name 6) (ev_bin (ev_bin (ev_name 2) ev_int (by walk_at "op") st) ev_int (by walk_at "op") st) (by walk_at "ix")) (eva_cons ev_int eva_nil))) st) eva_nil)) st) ?_ nd
  refine blk_set 7 (ev_bin (ev_name 7) (ev_lst (eva_cons (ev_tup (eva_cons ev_str (eva_cons ev_int (eva_cons (ev_ix (ev_lst (eva_cons ev_int (eva_cons (ev_neg ev_int) (eva_cons ev_bl (eva_cons ev_non (eva_cons ev_str eva_nil))))) st) (ev_bin (ev_bin (ev_name 2) ev_int (by walk_at "op") st) ev_int (by walk_at "op") st) (by walk_at "ix")) (eva_cons (ev_name 3) (eva_cons (ev_name 5) eva_nil))))) st) eva_nil) st) (by walk_at "op") st) ?_ nd
  refine blk_set 7 (ev_bin (ev_name 7) (ev_lst (eva_cons (ev_tup (eva_cons ev_str (eva_cons ev_int (eva_cons ev_int (eva_cons (ev_ix (ev_lst (eva_cons (ev_bin (ev_name 3) ev_int (by walk_at "op") st) (eva_cons (ev_neg ev_int) (eva_cons ev_bl (eva_cons ev_non (eva_cons ev_str eva_nil))))) st) (ev_bin (ev_bin (ev_name 2) ev_int (by walk_at "op") st) ev_int (by walk_at "op") st) (by walk_at "ix")) (eva_cons (ev_name 5) eva_nil))))) st) eva_nil) st) (by walk_at "op") st) ?_ nd
  refine blk_set 7 (ev_bin (ev_name 7) (ev_lst (eva_cons (ev_tup (eva_cons ev_str (eva_cons ev_int (eva_cons (ev_ix (ev_lst (eva_cons (ev_bin (ev_bin (ev_name 3) ev_int (by walk_at "op") st) (ev_bin (ev_bin (ev_name 2) ev_int (by walk_at "op") st) ev_int (by walk_at "op") st) (by walk_at "op") st) (eva_cons (ev_neg ev_int) (eva_cons ev_bl (eva_cons ev_non (eva_cons ev_str eva_nil))))) st) (ev_bin (ev_bin (ev_name 2) ev_int (by walk_at "op") st) ev_int (by walk_at "op") st) (by walk_at "ix")) eva_nil))) st) eva_nil) st) (by walk_at "op") st) ?_ nd
  refine blk_set 7 (ev_bin (ev_name 7) (ev_lst (eva_cons (ev_tup (eva_cons ev_str (eva_cons ev_int (eva_cons ev_int (eva_cons (ev_name 3) (eva_cons (ev_call k_w_no_change hr (eva_cons (ev_bin (ev_name 2) ev_int (by walk_at "op") st) eva_nil) st ⟨_, rfl, rfl⟩) eva_nil))))) st) (eva_cons (ev_tup (eva_cons ev_str (eva_cons ev_int (eva_cons ev_int (eva_cons (ev_name 3) eva_nil)))) st) (eva_cons (ev_tup (eva_cons ev_str (eva_cons ev_int eva_nil)) st) (eva_cons (ev_tup (eva_cons ev_str eva_nil) st) (eva_cons (ev_tup eva_nil st) eva_nil))))) st) (by walk_at "op") st) ?_ nd
  refine blk_set 7 (ev_bin (ev_name 7) (ev_lst (eva_cons (ev_tup (eva_cons ev_str (eva_cons ev_int (eva_cons ev_int (eva_cons (ev_name 3) (eva_cons (ev_name 5) eva_nil))))) st) (eva_cons (ev_tup (eva_cons ev_int (eva_cons ev_int (eva_cons ev_int eva_nil))) st) (eva_cons ev_non (eva_cons ev_str (eva_cons (ev_lst (eva_cons ev_str (eva_cons ev_int (eva_cons ev_int eva_nil))) st) (eva_cons (ev_tup (eva_cons ev_str (eva_cons ev_int (eva_cons ev_int (eva_cons ev_int (eva_cons (ev_name 5) eva_nil))))) st) eva_nil)))))) st) (by walk_at "op") st) ?_ nd
  exact blk_retR hp (ev_ix (ev_name 7) (ev_bin (ev_name 2) ev_int (by walk_at "op") st) (by walk_at "ix")) rfl fun _ w => w.1
/-! what is no letter for a hand -/
def noTookL (own n c : Int) : List D := [
  .tup [.str tookS, [D.int (own + 1), .int (own - 1), .bl true, .non, .str "0", .int (10 ^ 9)].getD (c / 16 % 6).toNat .non, .int 1, .int 0, goodR n],
  .tup [.str tookS, .int own, [D.int 0, .int (-1 - c / 64 % 9), .bl true, .non, .str "1"].getD (c / 16 % 5).toNat .non, .int 0, goodR n],
  .tup [.str tookS, .int own, .int 1, [D.int (-1), .int 8, .bl true, .non, .str "0"].getD (c / 16 % 5).toNat .non, goodR n],
  .tup [.str tookS, .int own, .int 1, .int 0, noCh (c / 16)], .tup [.str tookS, .int own, .int 1, .int 0], .tup [.str tookS], .tup [],
  .tup [.str againS, .int own, .int 0], .tup [.str askS, .int own, .int 1, .int 0, goodR n], .tup [.str "take", .int own, .int 1, .int 0, goodR n], .non, .str tookS, .int 5,
  .lst [.str tookS, .int own, .int 1, .int 0, goodR n], .dct, .tup [.str tookS, .int own, .int 1, .int 0, goodR n, goodR n]]
def noTook (own n c : Int) : D := (noTookL own n c).getD (c % 16).toNat .non
def R_notook (A : Ad) (m : Ms) (ds : List D) (r : Res) : Prop := ∃ hd kp x own c, m = hdM A hd kp x .dk0 ∧ ds = [.ref hd, .int own, .int c] ∧ 0 < x.held.length ∧ x.held.length ≤ 60 ∧ r = .ok (noTook own x.held.length c)
theorem ok_notook (T : Txt B A) : Kq B "_law_no_took" 2 3 (R_notook A) := by
  obtain ⟨f, fd, F, m⟩ := T.d_w_no_took
  have k_text := ok_hd_text T
  have k_w_no_change := ok_noch T
  refine kq_of F m (F.binds fun _ _ _ _ _ _ us hl => match us, hl with | [_, _, _], _ => rfl) c_w_no_took rfl (by decide) fun cdv A' outer s H Q E hr S m ds r hl hR hp => ?_
  obtain ⟨hd, kp, x, own, c, rfl, rfl, h0, h60, rfl⟩ := hR
  have st : Stb (QW H S (hdM A hd kp x .dk0)) := stb_QW
  have nd := c_w_no_took.nd
  have hx : (Sx x.held).length ≤ 1000 := by
    rw [sx_len]
    omega
  refine blk_set 3 (ev_is (ev_bi (eva_cons (ev_meth0Q 0 (fun _ w => w.2) st k_text T.hnd.cl hr (ev_name 0) ⟨hd, kp, x, rfl, rfl, rfl⟩) eva_nil) (by walk_at "bi") st T.zlen boot_len) (show D.int ((Sx x.held).length : Int) = .int (x.held.length : Int) by rw [sx_len])) ?_ nd
  refine blk_set 4 (ev_is (ev_bin (ev_lst (eva_cons (ev_tup (eva_cons ev_str (eva_cons (ev_name 3) eva_nil)) st) eva_nil) st) (ev_bt (eva_cons (ev_cmp (ev_name 3) ev_int (by walk_at "op") st) eva_nil) (by walk_at "bi") st T.zint boot_int) (bo_rep (by split <;> decide) (by split <;> decide)) st) (rep_good (by omega))) ?_ nd
  refine blk_set 5 (ev_lst (eva_cons (ev_bin (ev_name 1) ev_int (by walk_at "op") st) (eva_cons (ev_bin (ev_name 1) ev_int (by walk_at "op") st) (eva_cons ev_bl (eva_cons ev_non (eva_cons ev_str (eva_cons (ev_bin ev_int ev_int (by walk_at "op") st) eva_nil)))))) st) ?_ nd
  refine blk_set 6 (ev_lst (eva_cons (ev_tup (eva_cons ev_str (eva_cons (ev_ix (ev_name 5) (ev_bin (ev_bin (ev_name 2) ev_int (by walk_at "op") st) ev_int (by walk_at "op") st) (by walk_at "ix")) (eva_cons ev_int (eva_cons ev_int (eva_cons (ev_name 4) eva_nil))))) st) eva_nil) st) ?_ nd
  refine blk_set 6 (ev_bin (ev_name 6) (ev_lst (eva_cons (ev_tup (eva_cons ev_str (eva_cons (ev_name 1) (eva_cons (ev_ix (ev_lst (eva_cons ev_int (eva_cons (ev_bin (ev_neg ev_int) (ev_bin (ev_bin (ev_name 2) ev_int (by walk_at "op") st) ev_int (by walk_at "op") st) (by walk_at "op") st) (eva_cons ev_bl (eva_cons ev_non (eva_cons ev_str eva_nil))))) st) (ev_bin (ev_bin (ev_name 2) ev_int (by walk_at "op") st) ev_int (by walk_at "op") st) (by walk_at "ix")) (eva_cons ev_int (eva_cons (ev_name 4) eva_nil))))) st) eva_nil) st) (by walk_at "op") st) ?_ nd
  refine blk_set 6 (ev_bin (ev_name 6) (ev_lst (eva_cons (ev_tup (eva_cons ev_str (eva_cons (ev_name 1) (eva_cons ev_int (eva_cons (ev_ix (ev_lst (eva_cons (ev_neg ev_int) (eva_cons ev_int (eva_cons ev_bl (eva_cons ev_non (eva_cons ev_str eva_nil))))) st) (ev_bin (ev_bin (ev_name 2) ev_int (by walk_at "op") st) ev_int (by walk_at "op") st) (by walk_at "ix")) (eva_cons (ev_name 4) eva_nil))))) st) eva_nil) st) (by walk_at "op") st) ?_ nd
  refine blk_set 6 (ev_bin (ev_name 6) (ev_lst (eva_cons (ev_tup (eva_cons ev_str (eva_cons (ev_name 1) (eva_cons ev_int (eva_cons ev_int (eva_cons (ev_call k_w_no_change hr (eva_cons (ev_bin (ev_name 2) ev_int (by walk_at "op") st) eva_nil) st ⟨_, rfl, rfl⟩) eva_nil))))) st) (eva_cons (ev_tup (eva_cons ev_str (eva_cons (ev_name 1) (eva_cons ev_int (eva_cons ev_int eva_nil)))) st) (eva_cons (ev_tup (eva_cons ev_str eva_nil) st) (eva_cons (ev_tup eva_nil st) eva_nil)))) st) (by walk_at "op") st) ?_ nd
  refine blk_set 6 (ev_bin (ev_name 6) (ev_lst (eva_cons (ev_tup (eva_cons ev_str (eva_cons (ev_name 1) (eva_cons ev_int eva_nil))) st) (eva_cons (ev_tup (eva_cons ev_str (eva_cons (ev_name 1) (eva_cons ev_int (eva_cons ev_int (eva_cons (ev_name 4) eva_nil))))) st) (eva_cons (ev_tup (eva_cons ev_str (eva_cons (ev_name 1) (eva_cons ev_int (eva_cons ev_int (eva_cons (ev_name 4) eva_nil))))) st) (eva_cons ev_non (eva_cons ev_str (eva_cons ev_int eva_nil)))))) st) (by walk_at "op") st) ?_ nd
  refine blk_set 6 (ev_bin (ev_name 6) (ev_lst (eva_cons (ev_lst (eva_cons ev_str (eva_cons (ev_name 1) (eva_cons ev_int (eva_cons ev_int (eva_cons (ev_name 4) eva_nil))))) st) (eva_cons (ev_dct st) (eva_cons (ev_tup (eva_cons ev_str (eva_cons (ev_name 1) (eva_cons ev_int (eva_cons ev_int (eva_cons (ev_name 4) (eva_cons (ev_name 4) eva_nil)))))) st) eva_nil))) st) (by walk_at "op") st) ?_ nd
  exact blk_retR hp (ev_ix (ev_name 6) (ev_bin (ev_name 2) ev_int (by walk_at "op") st) (by walk_at "ix")) rfl fun _ w => w.1
end
end Ink
/-! Ink30 -/
/-! What unfit changes make, what insertions make; loops over data while objects change. -/
namespace Ink
open PySem PySem.Spec PyProof.Rows L2
local macro_rules | `(tactic| walk_at "op") => `(tactic| first
  | exact bo_add | exact bo_sub | exact bo_mod (by decide) | exact bo_fdiv (by decide) | exact bo_lt | exact bo_le | exact bo_gt | exact bo_ge | exact bo_eqI | exact bo_neI | exact bo_eqS | exact bo_neS | exact bo_in2 | exact bo_addL (Nat.le_of_ble_eq_true rfl) | exact bo_eq | exact bo_ne)
local macro_rules | `(tactic| walk_at "ix") => `(tactic| first | exact io_tup rfl | exact io_lst rfl)
section
variable {X : Cx} {S M : Set'} {H0 : Hp} {G : Gm} {W : As} {pos : Pos} {rest body : List Stmt} {E : Ends} {ds : List D}
/-- for x in data, while objects change -/
theorem blk_forO (j : Nat) {x : Str} {it : Expr} {px : Pos} (Gi : Nat → Gm) (mi : Nat → Ms) (h : Ev X S it G W (.lst ds) (OB H0 M S (mi 0))) (h0 : ∀ σ H, Ty S H σ G → Ty S H σ (Gi 0))
    (turn : ∀ (i : Nat) (d : D) (Hs : Hp) (M2 : Set') (Nx : L2.St → Hp → Prop), ds[i]? = some d → (∀ σ H, Ty S H σ (Gi (i + 1)) → SOk S H → OB Hs M2 S (mi (i + 1)) H → Nx σ H) → Blk X S body { E with nx := Nx, ct := Nx, bk := fun σ H => WB X rest E σ H } ((Gi i).set j (some d)) (OB Hs M2 S (mi i)))
    (after : Blk X S rest E (Gi ds.length) (OB H0 M S (mi ds.length))) (hN : X.N.Nodup) (hp : PassesOwn (model X.prog X.w) X.A X.env X.xe) (hj : X.N[j]? = some x := by rfl) (hx : Loc X.env.scope x := by first | exact Or.inl rfl | exact Or.inr rfl)
    (hf : X.fn x = true ∨ X.env.scope.names.lookup x = some .local := by first | exact .inl rfl | exact .inr rfl) (hc : X.calm = true := by rfl) (hs : ∀ x, foldedSetIterable it X.env x = pure x := by intro _; rfl) :
    Blk X S (.For (.Name x px) it body [] pos :: rest) E G W := fun σ H ty so w => by
  refine ⟨_, pss_cons (ps_for hp hc (pi_list we_pe) (pg_name hN hj hx hf) wb_pss hs) wb_pss, h σ H ty so w _ fun v H1 k1 w1 p1 => ?_⟩
  obtain ⟨a, vs, rfl, na, ha, hd⟩ := p1
  refine ⟨a, rfl, ⟨vs, SqL.of ha⟩, for_list (K := X.K) (a := a) (xs := vs) (fun i σ' H' => Ty S H' σ' (Gi i) ∧ SOk S H' ∧ OB H1 (fun b => S b ∧ (M b ∨ H0 b = none)) S (mi i) H') ?_ (fun i σ' H' _ p => SqL.of (p.2.2.k.1 a _ ha fun z => na z.1)) ?_ ?_⟩
  · exact ⟨h0 σ H1 (ty.kept k1), so.kept k1, Kept.refl H1, fun y hy => .inl ⟨(w1.o.at' y hy).1, w1.f y hy⟩, w1.o⟩
  · rintro i x σ' H' hx ⟨t', s', w'⟩
    obtain ⟨d, e, p⟩ := hd.getV hx
    exact turn i d H1 _ _ e (fun σ H t s o => ⟨t, s, o⟩) _ H' (t'.set j (p.kept (w'.k.weak fun b z => z.1))) s' w'
  · rintro σ' H' ⟨t', s', w'⟩
    rw [hd.len] at t' w'
    refine after σ' H' t' s' ⟨⟨fun b o e n => w'.k.1 b o (w1.k.1 b o e n) fun z => z.2.elim n fun y => ?_, fun b e => w1.k.2 b (w'.k.2 b e)⟩, fun y hy => (w'.f y hy).elim (fun z => z.2) fun z => .inr (w1.k.2 _ z), w'.o⟩
    rw [y] at e
    cases e
end
/-! ### what insertions make -/
/-- the signs that stand in a known text -/
def inK (c : Nat) : Bool := decide (c ∈ [97, 98, 10, 99, 100, 120, 121, 122, 113, 118, 119])
theorem inK_SG {c : Nat} (h : inK c = true) : inSG c = true := by
  have h2 : ∀ c ∈ [97, 98, 10, 99, 100, 120, 121, 122, 113, 118, 119], inSG c = true := by decide +kernel
  exact h2 c (of_decide_eq_true h)
theorem allK_SG {l : List Nat} (h : l.all inK = true) : l.all inSG = true := by
  rw [List.all_eq_true] at h ⊢
  exact fun c hc => inK_SG (h c hc)
def insP (n p : Nat) (t : Str) : List D := (if 0 < p then [keepP p] else []) ++ [putP t] ++ (if p < n then [keepP ((n : Int) - p)] else [])
theorem put_part {t : Str} (h : CutT t) : partD (putP t) = true := by
  show (if putS = keepS then posB (.str t) else if putS = putS ∨ cutS' = putS then txtB (.str t) else false) = true
  rw [if_neg (by decide +kernel), if_pos (.inl rfl)]
  exact cutT_txt h
theorem ins_ok {n p : Nat} {t : Str} (h : CutT t) : okCh (.lst (insP n p t)) = true := by
  have o1 : okPart (putP t) = true := okPart_str (by rw [h.len]; decide)
  unfold insP
  by_cases c1 : 0 < p <;> by_cases c2 : p < n
  · rw [if_pos c1, if_pos c2]
    exact okCh_row (Nat.le_of_ble_eq_true rfl) (by simp [List.all_cons, o1, okPart_keep])
  · rw [if_pos c1, if_neg c2]
    exact okCh_row (Nat.le_of_ble_eq_true rfl) (by simp [List.all_cons, o1, okPart_keep])
  · rw [if_neg c1, if_pos c2]
    exact okCh_row (Nat.le_of_ble_eq_true rfl) (by simp [List.all_cons, o1, okPart_keep])
  · rw [if_neg c1, if_neg c2]
    exact okCh_row (Nat.le_of_ble_eq_true rfl) (by simp [List.all_cons, o1])
theorem ins_ch {n p : Nat} {t : Str} (h : CutT t) : changeD (.lst (insP n p t)) = true := by
  have b1 : badW keepS putS = false := by decide +kernel
  have b2 : badW putS keepS = false := by decide +kernel
  have pp := put_part h
  show ((insP n p t).all partD && adj (insP n p t)) = true
  unfold insP
  by_cases c1 : 0 < p <;> by_cases c2 : p < n
  · rw [if_pos c1, if_pos c2]
    show ((partD (keepP p) && (partD (putP t) && (partD (keepP ((n : Int) - p)) && true))) && (!badW keepS putS && (!badW putS keepS && true))) = true
    rw [pp, keep_part (by omega), keep_part (by omega), b1, b2]
    rfl
  · rw [if_pos c1, if_neg c2]
    show ((partD (keepP p) && (partD (putP t) && true)) && (!badW keepS putS && true)) = true
    rw [pp, keep_part (by omega), b1]
    rfl
  · rw [if_neg c1, if_pos c2]
    show ((partD (putP t) && (partD (keepP ((n : Int) - p)) && true)) && (!badW putS keepS && true)) = true
    rw [pp, keep_part (by omega), b2]
    rfl
  · rw [if_neg c1, if_neg c2]
    show ((partD (putP t) && true) && true) = true
    rw [pp]
    rfl
/-! one part after the other -/
theorem dst_keep (x : List Nat) (s : Nat × List Nat) (n : Int) : dstep x s (keepP n) = (s.1 + n.toNat, s.2 ++ (x.drop s.1).take n.toNat) := by
  unfold dstep
  rw [if_neg (show ¬ wD (keepP n) = putS from keep_put), if_pos (show wD (keepP n) = keepS from rfl)]
  rfl
theorem dst_put (x : List Nat) (s : Nat × List Nat) (t : Str) : dstep x s (putP t) = (s.1, s.2 ++ t.cps.toList) := by
  unfold dstep
  rw [if_pos (show wD (putP t) = putS from rfl)]
  rfl
theorem dst_cut (x : List Nat) (s : Nat × List Nat) (t : Str) : dstep x s (cutP t) = (s.1 + t.length, s.2) := by
  unfold dstep
  rw [if_neg (show ¬ wD (cutP t) = putS from cut_put), if_neg (show ¬ wD (cutP t) = keepS from cut_keep)]
  rfl
theorem dbad_keep (x : List Nat) (s : Nat × List Nat) (n : Int) : dbad x s (keepP n) = false := by
  unfold dbad
  rw [decide_eq_false (show ¬ wD (keepP n) = putS from keep_put), decide_eq_true (show wD (keepP n) = keepS from rfl)]
  rfl
theorem dbad_put (x : List Nat) (s : Nat × List Nat) (t : Str) : dbad x s (putP t) = false := by
  unfold dbad
  rw [decide_eq_true (show wD (putP t) = putS from rfl)]
  rfl
theorem dbad_cut (x : List Nat) (s : Nat × List Nat) (t : Str) : dbad x s (cutP t) = !decide ((x.drop s.1).take t.length = t.cps.toList) := by
  unfold dbad
  rw [decide_eq_false (show ¬ wD (cutP t) = putS from cut_put), decide_eq_false (show ¬ wD (cutP t) = keepS from cut_keep)]
  rfl
/-- the parts one after the other: none is bad, all is walked -/
def walkF (x : List Nat) : Nat × List Nat → List D → Option (List Nat)
  | s, [] => if s.1 = x.length then some s.2 else none
  | s, d :: l => if dbad x s d = true then none else walkF x (dstep x s d) l
end Ink
/-! Ink31 -/
/-! What each change that comes makes of a text. -/
namespace Ink
open PySem PySem.Spec PyProof.Rows L2
theorem walkF_eq (x : List Nat) : ∀ (l : List D) (s : Nat × List Nat), walkF x s l = if (((List.range l.length).all fun i => !dbad x ((l.take i).foldl (dstep x) s) (l.getD i .non)) && decide ((l.foldl (dstep x) s).1 = x.length)) = true then some (l.foldl (dstep x) s).2 else none
  | [], s => by
    unfold walkF
    by_cases c : s.1 = x.length
    · rw [if_pos c, if_pos (by simp [c])]
      rfl
    · rw [if_neg c, if_neg (by simp [c])]
  | d :: l, s => by
    have ih := walkF_eq x l (dstep x s d)
    unfold walkF
    rw [List.length_cons, List.range_succ_eq_map, List.all_cons, List.all_map]
    by_cases c : dbad x s d = true
    · rw [if_pos c, if_neg]
      show ¬ ((!dbad x s d && _) && _) = true
      rw [c]
      simp
    · rw [if_neg c, ih]
      have c' : dbad x s d = false := by simpa using c
      show _ = if (((!dbad x s d) && ((List.range l.length).all fun i => !dbad x ((l.take i).foldl (dstep x) (dstep x s d)) (l.getD i .non))) && decide ((l.foldl (dstep x) (dstep x s d)).1 = x.length)) = true then some (l.foldl (dstep x) (dstep x s d)).2 else none
      rw [c', show (!false) = true from rfl, Bool.true_and]
theorem doneF_walk (x : List Nat) (l : List D) : doneF x l = walkF x (0, []) l := (walkF_eq x l (0, [])).symm
theorem wk_nil (x : List Nat) (s : Nat × List Nat) : walkF x s [] = if s.1 = x.length then some s.2 else none := rfl
theorem wk_keep (x : List Nat) (s : Nat × List Nat) (n : Int) (l : List D) : walkF x s (keepP n :: l) = walkF x (s.1 + n.toNat, s.2 ++ (x.drop s.1).take n.toNat) l := by
  show (if dbad x s (keepP n) = true then none else walkF x (dstep x s (keepP n)) l) = _
  rw [dbad_keep, if_neg Bool.false_ne_true, dst_keep]
theorem wk_put (x : List Nat) (s : Nat × List Nat) (t : Str) (l : List D) : walkF x s (putP t :: l) = walkF x (s.1, s.2 ++ t.cps.toList) l := by
  show (if dbad x s (putP t) = true then none else walkF x (dstep x s (putP t)) l) = _
  rw [dbad_put, if_neg Bool.false_ne_true, dst_put]
theorem wk_cut (x : List Nat) (s : Nat × List Nat) (t : Str) (l : List D) : walkF x s (cutP t :: l) = if (x.drop s.1).take t.length = t.cps.toList then walkF x (s.1 + t.length, s.2) l else none := by
  show (if dbad x s (cutP t) = true then none else walkF x (dstep x s (cutP t)) l) = _
  rw [dbad_cut, dst_cut]
  by_cases c : (x.drop s.1).take t.length = t.cps.toList
  · rw [if_pos c, decide_eq_true c]
    rfl
  · rw [if_neg c, decide_eq_false c]
    rfl
theorem done_ins (x : List Nat) (p : Nat) (t : Str) (h : p ≤ x.length) : doneF x (insP x.length p t) = some (x.take p ++ t.cps.toList ++ x.drop p) := by
  rw [doneF_walk]
  unfold insP
  by_cases c1 : 0 < p <;> by_cases c2 : p < x.length
  · rw [if_pos c1, if_pos c2]
    show walkF x (0, []) (keepP p :: putP t :: keepP ((x.length : Int) - p) :: []) = _
    rw [wk_keep, wk_put, wk_keep, wk_nil]
    simp only [Int.toNat_natCast, Nat.zero_add, List.drop_zero, List.nil_append]
    rw [if_pos (by omega), show List.take ((x.length : Int) - p).toNat (x.drop p) = x.drop p from List.take_of_length_le (by rw [List.length_drop]; omega)]
  · have e : p = x.length := by omega
    rw [if_pos c1, if_neg c2]
    show walkF x (0, []) (keepP p :: putP t :: []) = _
    rw [wk_keep, wk_put, wk_nil]
    simp only [Int.toNat_natCast, Nat.zero_add, List.drop_zero, List.nil_append]
    rw [if_pos e, e, List.drop_length, List.append_nil]
  · have e : p = 0 := by omega
    subst e
    rw [if_neg c1, if_pos c2]
    show walkF x (0, []) (putP t :: keepP ((x.length : Int) - (0 : Nat)) :: []) = _
    rw [wk_put, wk_keep, wk_nil]
    simp only [Nat.zero_add, List.drop_zero, List.nil_append, List.take_zero]
    rw [if_pos (by omega), List.take_of_length_le (by omega)]
  · have e : p = 0 := by omega
    have e2 : x = [] := List.eq_nil_of_length_eq_zero (by omega)
    subst e e2
    rw [if_neg c1, if_neg c2]
    show walkF [] (0, []) (putP t :: []) = _
    rw [wk_put, wk_nil]
    simp
/-- a keep beyond the end -/
theorem done_far (x : List Nat) (n : Int) (h : (x.length : Int) < n) : doneF x [keepP n] = none := by
  rw [doneF_walk, wk_keep, wk_nil, if_neg (by show ¬ 0 + n.toNat = x.length; omega)]
theorem done_all (x : List Nat) (n : Int) (h : n = x.length) : doneF x [keepP n] = some x := by
  subst h
  rw [doneF_walk, wk_keep, wk_nil, if_pos (by show 0 + ((x.length : Int)).toNat = x.length; omega)]
  simp
theorem done_put (x : List Nat) (t : Str) (n : Int) (h : n = x.length) : doneF x [putP t, keepP n] = some (t.cps.toList ++ x) := by
  subst h
  rw [doneF_walk, wk_put, wk_keep, wk_nil, if_pos (by show 0 + ((x.length : Int)).toNat = x.length; omega)]
  simp
/-- a cut of another text -/
theorem done_cutX (x : List Nat) (t : Str) (l : List D) (h : x.take t.length ≠ t.cps.toList) : doneF x (cutP t :: l) = none := by
  rw [doneF_walk, wk_cut, if_neg (by simpa using h)]
theorem done_cut1 (c : Nat) (x : List Nat) (n : Int) (h : n = x.length) : doneF (c :: x) [cutP ⟨#[c]⟩, keepP n] = some x := by
  subst h
  rw [doneF_walk, wk_cut, if_pos (by simp [Str.length]), wk_keep, wk_nil, if_pos (by show 0 + 1 + ((x.length : Int)).toNat = x.length + 1; omega)]
  simp [Str.length]
/-! changes that do not fit -/
def unfitCh (n : Nat) (c : Int) : D := if c / 5 % 3 = 1 then .lst [cutP ⟨(List.replicate (n + 1) 126).toArray⟩] else if c / 5 % 3 = 2 then .lst [cutP hS, keepP ((n : Int) - 1)] else .lst [keepP ((n : Int) + 1 + c % 5)]
theorem tilde_cut {n : Nat} (h : n ≤ 900) : changeD (.lst [cutP ⟨(List.replicate (n + 1) 126).toArray⟩]) = true ∧ okCh (.lst [cutP ⟨(List.replicate (n + 1) 126).toArray⟩]) = true := by
  have hl : (⟨(List.replicate (n + 1) 126).toArray⟩ : Str).length ≤ 1000 := by
    show (List.replicate (n + 1) 126).toArray.size ≤ 1000
    rw [List.size_toArray, List.length_replicate]
    omega
  have ht : txtB (.str ⟨(List.replicate (n + 1) 126).toArray⟩) = true := by
    show (!decide ((⟨(List.replicate (n + 1) 126).toArray⟩ : Str) = Str.ofString "") && ((List.replicate (n + 1) 126).toArray.toList).all inSG) = true
    rw [decide_eq_false]
    · have e : ((List.replicate (n + 1) 126).toArray.toList).all inSG = true := by
        rw [List.all_eq_true]
        intro c hc
        have e1 : c = 126 := by simpa using hc
        rw [e1]
        decide +kernel
      rw [e]
      rfl
    · intro e
      have := congrArg Str.length e
      revert this
      show (List.replicate (n + 1) 126).toArray.size = 0 → False
      rw [List.size_toArray, List.length_replicate]
      omega
  refine ⟨?_, okCh_row (Nat.le_of_ble_eq_true rfl) (by rw [List.all_cons, show okPart (cutP ⟨(List.replicate (n + 1) 126).toArray⟩) = true from okPart_str hl]; rfl)⟩
  show (((if cutS' = keepS then posB (.str ⟨(List.replicate (n + 1) 126).toArray⟩) else if putS = cutS' ∨ cutS' = cutS' then txtB (.str ⟨(List.replicate (n + 1) 126).toArray⟩) else false) && true) && true) = true
  rw [if_neg (by decide +kernel), if_pos (.inr rfl), ht]
  rfl
theorem unfit_bad {x : List Nat} (c : Int) (hk : x.all inK = true) (h2 : 2 ≤ x.length) (h9 : x.length ≤ 900) : ∃ l, unfitCh x.length c = .lst l ∧ okCh (.lst l) = true ∧ changeD (.lst l) = true ∧ doneF x l = none := by
  have m5 := Int.emod_nonneg c (show (5 : Int) ≠ 0 by decide)
  unfold unfitCh
  by_cases c1 : c / 5 % 3 = 1
  · rw [if_pos c1]
    obtain ⟨h1, h3⟩ := tilde_cut h9
    refine ⟨_, rfl, h3, h1, done_cutX _ _ _ fun e => ?_⟩
    have := congrArg List.length e
    rw [List.length_take] at this
    revert this
    show min (List.replicate (x.length + 1) 126).toArray.size x.length = (List.replicate (x.length + 1) 126).toArray.toList.length → False
    simp
  rw [if_neg c1]
  by_cases c2 : c / 5 % 3 = 2
  · rw [if_pos c2]
    obtain ⟨h1, h3⟩ := cut_row cutT_h (show 0 < (x.length : Int) - 1 by omega)
    refine ⟨_, rfl, okCh_row (Nat.le_of_ble_eq_true rfl) h3, h1, done_cutX _ _ _ fun e => ?_⟩
    cases x with
    | nil => simp at h2
    | cons a r =>
      have e2 : a = 35 := by
        have z : [a] = [35] := e
        injection z
      rw [List.all_cons, e2, Bool.and_eq_true] at hk
      exact absurd hk.1 (by decide)
  · rw [if_neg c2]
    refine ⟨_, rfl, okCh_row (Nat.le_of_ble_eq_true rfl) (by simp [okPart_keep]), ?_, done_far _ _ (by omega)⟩
    show ((partD (keepP _) && true) && true) = true
    rw [keep_part (by omega)]
    rfl
end Ink
/-! Ink32 -/
/-! The law's defs: unfit, taken. -/
namespace Ink
open PySem PySem.Spec PyProof.Rows L2
local macro_rules | `(tactic| walk_at "op") => `(tactic| first
  | exact bo_add | exact bo_sub | exact bo_mod (by decide) | exact bo_fdiv (by decide) | exact bo_lt | exact bo_le | exact bo_gt | exact bo_ge | exact bo_eqI | exact bo_neI | exact bo_eqS | exact bo_neS | exact bo_in2 | exact bo_addL (Nat.le_of_ble_eq_true rfl) | exact bo_eq | exact bo_ne)
local macro_rules | `(tactic| walk_at "ix") => `(tactic| first | exact io_tup rfl | exact io_lst rfl)
section
variable {B : Bs} {A : Ad}
def R_unfit (A : Ad) (m : Ms) (ds : List D) (r : Res) : Prop := ∃ sv t q x c s, m = svM A sv t q x ∧ ds = [.ref sv, .tup [.int c, .int s]] ∧ 2 ≤ x.known.length ∧ x.known.length ≤ 60 ∧ r = .ok (.tup (asL 0 (s + 1) x.taken.length (unfitCh x.known.length c)))
theorem ok_unfit (T : Txt B A) : Kq B "_law_unfit" 2 2 (R_unfit A) := by
  obtain ⟨f, fd, F, m⟩ := T.d_w_unfit
  have k_text := ok_sv_text T
  have k_many := ok_sv_many T
  refine kq_of F m (F.binds fun _ _ _ _ _ _ us hl => match us, hl with | [_, _], _ => rfl) c_w_unfit rfl (by decide) fun cdv A' outer s0 H Q E hr S m ds r hl hR hp => ?_
  obtain ⟨sv, t, q, x, c, s, rfl, rfl, h2, h60, rfl⟩ := hR
  have st : Stb (QW H S (svM A sv t q x)) := stb_QW
  have nd := c_w_unfit.nd
  have hx : (Sx x.known).length ≤ 1000 := by
    rw [sx_len]
    omega
  refine blk_set 2 (ev_meth0Q 0 (fun _ w => w.2) st k_text T.srv.cl hr (ev_name 0) ⟨sv, t, q, x, rfl, rfl, rfl⟩) ?_ nd
  refine blk_set 3 (ev_bin (ev_ix (ev_name 1) ev_int (by walk_at "ix")) ev_int (by walk_at "op") st) ?_ nd
  refine blk_set 4 (ev_is (ev_bi (eva_cons (ev_name 2) eva_nil) (co_len_str hx) st T.zlen boot_len) (show D.int ((Sx x.known).length : Int) = .int (x.known.length : Int) by rw [sx_len])) ?_ nd
  refine blk_set 5 (ev_lst (eva_cons (ev_tup (eva_cons ev_str (eva_cons (ev_bin (ev_bin (ev_name 4) ev_int (by walk_at "op") st) (ev_bin (ev_ix (ev_name 1) ev_int (by walk_at "ix")) ev_int (by walk_at "op") st) (by walk_at "op") st) eva_nil)) st) eva_nil) st) ?_ nd
  have fin : ∀ {d : D}, unfitCh x.known.length c = d → Blk (cx B n_w_unfit "_law_unfit" s_w_unfit f cdv A' outer s0 H E) S ((defBody s_w_unfit).drop 6) { nx := fun _ H' => Q .non H', rt := Q } [some (.ref sv), some (.tup [.int c, .int s]), some (.str (Sx x.known)), some (.int (s + 1)), some (.int (x.known.length : Int)), some d] (QW H S (svM A sv t q x)) := fun {d} e => by
    subst e
    exact blk_retR hp (ev_tup (eva_cons ev_str (eva_cons ev_int (eva_cons (ev_name 3) (eva_cons (ev_meth0Q 0 (fun _ w => w.2) st k_many T.srv.cl hr (ev_name 0) ⟨sv, t, q, x, rfl, rfl, rfl⟩) (eva_cons (ev_name 5) eva_nil))))) st) rfl fun _ w => w.1
  by_cases c1 : c / 5 % 3 = 1
  · refine blk_if (et_is (et_cmp (ev_bin (ev_bin (ev_ix (ev_name 1) ev_int (by walk_at "ix")) ev_int (by walk_at "op") st) ev_int (by walk_at "op") st) ev_int (by walk_at "op") st) (decide_eq_true c1)) (fun _ => ?_) (fun h => Bool.noConfusion h)
    refine blk_set 5 (ev_lst (eva_cons (ev_tup (eva_cons ev_str (eva_cons (ev_bin (ev_is ev_str (show D.str (Str.ofString "~") = .str ⟨#[126]⟩ from rfl)) (ev_bin (ev_name 4) ev_int (by walk_at "op") st) (bo_mulS (by omega) (by omega)) st) eva_nil)) st) eva_nil) st) (blk_on ?_) nd
    refine blk_if (et_w (ew_andF (et_is (et_cmp (ev_bin (ev_bin (ev_ix (ev_name 1) ev_int (by walk_at "ix")) ev_int (by walk_at "op") st) ev_int (by walk_at "op") st) ev_int (by walk_at "op") st) (decide_eq_false (by omega))))) (fun h => Bool.noConfusion h) (fun _ => blk_on ?_)
    refine fin ?_
    unfold unfitCh
    rw [if_pos c1]
    rfl
  refine blk_if (et_is (et_cmp (ev_bin (ev_bin (ev_ix (ev_name 1) ev_int (by walk_at "ix")) ev_int (by walk_at "op") st) ev_int (by walk_at "op") st) ev_int (by walk_at "op") st) (decide_eq_false c1)) (fun h => Bool.noConfusion h) (fun _ => blk_on ?_)
  by_cases c2 : c / 5 % 3 = 2
  · refine blk_if (et_is (et_w (ew_andT (et_is (et_cmp (ev_bin (ev_bin (ev_ix (ev_name 1) ev_int (by walk_at "ix")) ev_int (by walk_at "op") st) ev_int (by walk_at "op") st) ev_int (by walk_at "op") st) (decide_eq_true c2)) (ew_one_and (et_cmp (ev_name 4) ev_int (by walk_at "op") st)))) (decide_eq_true (show 0 < (x.known.length : Int) by omega))) (fun _ => ?_) (fun h => Bool.noConfusion h)
    refine blk_set 5 (ev_is (ev_sl (ev_lst (eva_cons (ev_tup (eva_cons ev_str (eva_cons ev_str eva_nil)) st) (eva_cons (ev_tup (eva_cons ev_str (eva_cons (ev_bin (ev_name 4) ev_int (by walk_at "op") st) eva_nil)) st) eva_nil)) st) eo_none (eo_some (ev_bin ev_int (ev_bt (eva_cons (ev_cmp (ev_name 4) ev_int (by walk_at "op") st) eva_nil) co_intB st T.zint boot_int) (by walk_at "op") st)) so_lst st) (show D.lst (cutD [cutP hS, keepP ((x.known.length : Int) - 1)] none (some (1 + if decide (1 < (x.known.length : Int)) = true then 1 else 0))) = .lst [cutP hS, keepP ((x.known.length : Int) - 1)] by
      rw [decide_eq_true (show 1 < (x.known.length : Int) by omega)]
      rfl)) (blk_on ?_) nd
    refine fin ?_
    unfold unfitCh
    rw [if_neg c1, if_pos c2]
  · refine blk_if (et_w (ew_andF (et_is (et_cmp (ev_bin (ev_bin (ev_ix (ev_name 1) ev_int (by walk_at "ix")) ev_int (by walk_at "op") st) ev_int (by walk_at "op") st) ev_int (by walk_at "op") st) (decide_eq_false c2)))) (fun h => Bool.noConfusion h) (fun _ => blk_on ?_)
    refine fin ?_
    unfold unfitCh
    rw [if_neg c1, if_neg c2]
    rfl
/-! the changes that are taken at first -/
def xyC (c : Int) : Nat := if c % 2 = 0 then 120 else 121
def tkPl (n : Nat) (c : Int) : Nat := (c / 8 % ((n : Int) + 1)).toNat
def tkStep (x : SvS) (c : Int) : SvS := takeSt x (c % (x.serials.length : Int)) (x.known.take (tkPl x.known.length c) ++ [xyC c] ++ x.known.drop (tkPl x.known.length c)) (.lst (insP x.known.length (tkPl x.known.length c) ⟨#[xyC c]⟩))
def tkRun (x : SvS) (l : List Int) : SvS := l.foldl tkStep x
theorem tkPl_le (n : Nat) (c : Int) : tkPl n c ≤ n := by
  unfold tkPl
  have h1 := Int.emod_nonneg (c / 8) (show (n : Int) + 1 ≠ 0 by omega)
  have h2 := Int.emod_lt_of_pos (c / 8) (show (0 : Int) < (n : Int) + 1 by omega)
  omega
/-- what holds of the server while changes come -/
structure TkOk (x : SvS) (n k : Nat) (h : Nat) : Prop where
  kn : x.known.all inK = true
  kl : x.known.length = n + k
  tl : x.taken.length = k
  ch : ∀ p ∈ x.taken, ∃ l, p.2 = .lst l
  sl : x.serials.length = h
  sn : ∀ s ∈ x.serials, 0 ≤ s ∧ s ≤ k
theorem TkOk.sv {x : SvS} {n k h : Nat} (o : TkOk x n k h) (hn : n + k ≤ 60) (h8 : h ≤ 8) : SvOk x := ⟨allK_SG o.kn, by rw [o.kl]; exact hn, by rw [o.tl]; omega, o.ch, by rw [o.sl]; exact h8⟩
theorem xyC_in (c : Int) : inK (xyC c) = true := by
  unfold xyC
  by_cases h : c % 2 = 0
  · rw [if_pos h]; decide
  · rw [if_neg h]; decide
theorem TkOk.getD_nn {x : SvS} {n k h : Nat} (o : TkOk x n k h) (i : Nat) : 0 ≤ x.serials.getD i 0 ∧ x.serials.getD i 0 ≤ k := by
  by_cases c : i < x.serials.length
  · exact o.sn _ (List.mem_of_getElem? (getD_of 0 c))
  · rw [List.getD_eq_getElem?_getD, List.getElem?_eq_none (by omega)]
    exact ⟨Int.le_refl 0, Int.natCast_nonneg k⟩
theorem sv_sub {A : Ad} {S : Set'} {sv t q : Addr} {x y : SvS} (h : ∀ z ∈ svM A sv t q x, S z.1) : ∀ z ∈ svM A sv t q y, S z.1 := fun z hz => by
  unfold svM at hz
  simp only [List.mem_cons, List.not_mem_nil, or_false] at hz
  rcases hz with rfl | rfl | rfl
  · exact (h _ List.mem_cons_self : S sv)
  · exact (h _ (List.mem_cons_of_mem _ List.mem_cons_self) : S t)
  · exact (h _ (List.mem_cons_of_mem _ (List.mem_cons_of_mem _ List.mem_cons_self)) : S q)
theorem TkOk.step {x : SvS} {n k h : Nat} (o : TkOk x n k h) (c : Int) : TkOk (tkStep x c) n (k + 1) h := by
  have hp := tkPl_le x.known.length c
  refine ⟨?_, ?_, ?_, fun p hp2 => ?_, ?_, fun s hs => ?_⟩
  · show (x.known.take _ ++ [xyC c] ++ x.known.drop _).all inK = true
    have hk := o.kn
    rw [List.all_append, List.all_append]
    have e1 : (x.known.take (tkPl x.known.length c)).all inK = true := List.all_eq_true.mpr fun a ha => List.all_eq_true.mp hk a (List.mem_of_mem_take ha)
    have e2 : (x.known.drop (tkPl x.known.length c)).all inK = true := List.all_eq_true.mpr fun a ha => List.all_eq_true.mp hk a (List.mem_of_mem_drop ha)
    rw [e1, e2]
    show (true && (inK (xyC c) && true) && true) = true
    rw [xyC_in]
    rfl
  · show (x.known.take _ ++ [xyC c] ++ x.known.drop _).length = _
    have := o.kl
    simp only [List.length_append, List.length_take, List.length_drop, List.length_singleton]
    omega
  · show (x.taken ++ _).length = _
    rw [List.length_append, o.tl]
    rfl
  · rcases List.mem_append.mp (show p ∈ x.taken ++ _ from hp2) with z | z
    · exact o.ch p z
    · rw [List.mem_singleton] at z
      exact ⟨_, by rw [z]⟩
  · show (x.serials.set _ _).length = h
    rw [List.length_set, o.sl]
  · have hs2 : s ∈ x.serials.set (c % (x.serials.length : Int)).toNat (x.serials.getD (c % (x.serials.length : Int)).toNat 0 + 1) := hs
    rcases List.mem_or_eq_of_mem_set hs2 with z | z
    · have := o.sn s z
      omega
    · have := o.getD_nn (c % (x.serials.length : Int)).toNat
      omega
theorem TkOk.run {n h : Nat} : ∀ (l : List Int) {x : SvS} {k : Nat}, TkOk x n k h → TkOk (tkRun x l) n (k + l.length) h
  | [], _, _, o => o
  | c :: l, x, k, o => by
    have z := TkOk.run l (o.step c)
    rw [List.length_cons, show k + (l.length + 1) = k + 1 + l.length by omega]
    exact z
theorem xy_txt (c : Int) : CutT ⟨#[xyC c]⟩ := ⟨rfl, by
  show ([xyC c] : List Nat).all inSG = true
  rw [List.all_cons, inK_SG (xyC_in c)]
  rfl⟩
def R_tak (A : Ad) (m : Ms) (ds : List D) (r : Res) (m' : Ms) : Prop := ∃ sv t q n h known l, m = svM A sv t q ⟨known, [], List.replicate h 0⟩ ∧ known.all inK = true ∧ known.length = n ∧ 1 ≤ h ∧ h ≤ 8 ∧ l.length ≤ 5 ∧ n ≤ 20 ∧ ds = [.ref sv, .lst (l.map D.int), .int (h : Nat)] ∧
  r = .ok (.lst ((tkRun ⟨known, [], List.replicate h 0⟩ l).serials.map D.int)) ∧ m' = svM A sv t q (tkRun ⟨known, [], List.replicate h 0⟩ l)
end
end Ink
/-! Ink33 -/
/-! The law's def: taken. -/
namespace Ink
open PySem PySem.Spec PyProof.Rows L2
local macro_rules | `(tactic| walk_at "op") => `(tactic| first
  | exact bo_add | exact bo_sub | exact bo_mod (by decide) | exact bo_fdiv (by decide) | exact bo_lt | exact bo_le | exact bo_gt | exact bo_ge | exact bo_eqI | exact bo_neI | exact bo_eqS | exact bo_neS | exact bo_in2 | exact bo_addL (Nat.le_of_ble_eq_true rfl) | exact bo_eq | exact bo_ne)
local macro_rules | `(tactic| walk_at "ix") => `(tactic| first | exact io_tup rfl | exact io_lst rfl)
section
variable {B : Bs} {A : Ad}
theorem ins_eq (n p : Nat) (t : Str) : (List.replicate (if decide ((0 : Int) < (p : Int)) = true then (1 : Int) else 0).toNat (keepP p) ++ [putP t]) ++ List.replicate (if decide ((p : Int) < (n : Int)) = true then (1 : Int) else 0).toNat (keepP ((n : Int) - p)) = insP n p t := by
  unfold insP
  by_cases c1 : 0 < p <;> by_cases c2 : p < n
  · rw [decide_eq_true (show (0 : Int) < (p : Int) by omega), decide_eq_true (show (p : Int) < (n : Int) by omega), if_pos c1, if_pos c2]; rfl
  · rw [decide_eq_true (show (0 : Int) < (p : Int) by omega), decide_eq_false (show ¬ (p : Int) < (n : Int) by omega), if_pos c1, if_neg c2]; rfl
  · rw [decide_eq_false (show ¬ (0 : Int) < (p : Int) by omega), decide_eq_true (show (p : Int) < (n : Int) by omega), if_neg c1, if_pos c2]; rfl
  · rw [decide_eq_false (show ¬ (0 : Int) < (p : Int) by omega), decide_eq_false (show ¬ (p : Int) < (n : Int) by omega), if_neg c1, if_neg c2]; rfl
theorem rep_le (b : Bool) : 0 ≤ (if b = true then (1 : Int) else 0) ∧ (if b = true then (1 : Int) else 0) ≤ 1000 := by
  cases b <;> decide
theorem rep_len {α : Type} (b : Bool) (a : α) : (List.replicate (if b = true then (1 : Int) else 0).toNat a).length ≤ 1 := by
  cases b <;> simp
theorem xy_at (c : Int) : atI (Str.ofString "xy").cps.toList (c % 2) = some (xyC c) := by
  have h1 := Int.emod_nonneg c (show (2 : Int) ≠ 0 by decide)
  have h2 := Int.emod_lt_of_pos c (show (0 : Int) < 2 by decide)
  unfold xyC
  by_cases h : c % 2 = 0
  · rw [if_pos h, h]; rfl
  · rw [if_neg h, show c % 2 = 1 by omega]; rfl
theorem run_succ {x : SvS} {l : List Int} {i : Nat} {c : Int} (h : l[i]? = some c) : tkRun x (l.take (i + 1)) = tkStep (tkRun x (l.take i)) c := by
  unfold tkRun
  rw [List.take_succ, h, List.foldl_append]
  rfl
theorem ok_tak (T : Txt B A) : Ko B "_law_taken" 8 3 (R_tak A) := by
  obtain ⟨f, fd, F, m⟩ := T.d_w_taken
  have k_text := ok_sv_text T
  have k_many := ok_sv_many T
  have k_came := ok_sv_came T
  refine ko_of F m (F.binds fun _ _ _ _ _ _ us hl => match us, hl with | [_, _, _], _ => rfl) c_w_taken rfl (by decide) fun cdv A' outer s0 H Q E hr S m ds r m' hl hR hS hp => ?_
  obtain ⟨sv, t, q, n, h, known, l, rfl, hk, hn, h1, h8, h5, hn2, rfl, rfl, rfl⟩ := hR
  have nd := c_w_taken.nd
  generalize hx0 : (⟨known, [], List.replicate h 0⟩ : SvS) = x0 at hp hS ⊢
  have o0 : TkOk x0 n 0 h := by
    rw [← hx0]
    exact ⟨hk, hn, rfl, (fun p z => nomatch z), by simp, fun s hs => by
      have e : s = 0 := List.eq_of_mem_replicate hs
      rw [e]
      decide⟩
  have es : List.replicate ((h : Int)).toNat (D.int 0) = x0.serials.map D.int := by
    rw [← hx0]
    simp
  have hz : (List.replicate ((h : Int)).toNat (D.int 0)).all flatB = true := by
    rw [List.all_replicate]
    simp [flatB]
  refine blk_setF 3 (od := .lst (x0.serials.map D.int)) (es ▸ evf_flat (G' := [none, none, some (.int (h : Int)), none, none, none, none, none, none]) hz rfl (fun i d e => match i, e with
      | 2, e => by
        cases e
        exact ⟨rfl, rfl⟩
      | 0, e => by cases e
      | 1, e => by cases e
      | 3, e => by cases e
      | 4, e => by cases e
      | 5, e => by cases e
      | 6, e => by cases e
      | 7, e => by cases e
      | 8, e => by cases e
      | i + 9, e => by simp at e) (fun H0 w0 S' => ev_bin (ev_lst (eva_cons ev_int eva_nil) (stb_and stb_OB stb_same)) (ev_name 2) (bo_rep (by omega) (by omega)) (stb_and stb_OB stb_same))) (fun la nla => ?_) (fun _ w => w) nd
  refine blk_forO 4 (fun _ => [some (.ref sv), some (.lst (l.map D.int)), some (.int (h : Int)), some (.ref la), none, none, none, none, none]) (fun i => svM A sv t q (tkRun x0 (l.take i)) ++ [(la, .lst ((tkRun x0 (l.take i)).serials.map D.int))]) (ev_name 1) (fun σ H' t => t) (fun i d Hs M2 Nx hd fin => ?_) ?_ nd po_cx
  · rw [List.getElem?_map] at hd
    obtain ⟨c, hc, rfl⟩ := Option.map_eq_some_iff.mp hd
    have hil : i < l.length := (List.getElem?_eq_some_iff.mp hc).1
    have o := o0.run (l.take i)
    rw [Nat.zero_add, List.length_take, Nat.min_eq_left (Nat.le_of_lt hil)] at o
    have o' := o.step c
    rw [run_succ hc] at fin
    generalize tkRun x0 (l.take i) = x at o o' fin ⊢
    have sok := o.sv (by omega) h8
    have sok' := o'.sv (by omega) h8
    have hsl := o.sl
    have hkl := o.kl
    have htl := o.tl
    have w0 := Int.emod_nonneg c (show (h : Int) ≠ 0 by omega)
    have w1 := Int.emod_lt_of_pos c (show (0 : Int) < (h : Int) by omega)
    have hwl : (c % (h : Int)).toNat < x.serials.length := by omega
    have hx : (Sx x.known).length ≤ 1000 := by
      rw [sx_len]
      omega
    have stx : ∀ {mm : Ms}, Stb (OB Hs M2 (wid S (· = la)) mm) := stb_OB
    refine blk_set 5 (ev_bin (ev_name 4) (ev_name 2) (bo_mod (by omega)) stx) ?_ nd
    have ser : atI (x.serials.map D.int) (c % (h : Int)) = some (.int (x.serials.getD (c % (h : Int)).toNat 0)) := atI_of (n := (c % (h : Int)).toNat) (by omega) (by rw [List.getElem?_map, getD_of 0 hwl]; rfl)
    have hix : ixN (x.serials.map D.int).length (c % (h : Int)) = some (c % (h : Int)).toNat := ixN_in w0 (by rw [List.length_map]; omega)
    refine blk_stO 3 (l := x.serials.map D.int) (z := c % (h : Int)) (j := (c % (h : Int)).toNat) (ev_bin (ev_ixO 3 (ev_name 3) (ev_name 5) ser) ev_int (by walk_at "op") stx) (ev_name 3) (ev_name 5) hix ?_
    refine blk_set 6 (ev_is (ev_bi (eva_cons (ev_meth0Q (m := svM A sv t q x) 0 (fun _ w => w.o.left) stx k_text T.srv.cl hr (ev_name 0) ⟨sv, t, q, x, rfl, rfl, rfl⟩) eva_nil) (co_len_str hx) stx T.zlen boot_len) (show D.int ((Sx x.known).length : Int) = .int (x.known.length : Int) by rw [sx_len])) ?_ nd
    have hpl := tkPl_le x.known.length c
    have epl : c / 8 % ((x.known.length : Int) + 1) = (tkPl x.known.length c : Int) := by
      unfold tkPl
      exact (Int.toNat_of_nonneg (Int.emod_nonneg _ (by omega))).symm
    refine blk_set 7 (ev_is (ev_bin (ev_bin (ev_name 4) ev_int (by walk_at "op") stx) (ev_bin (ev_name 6) ev_int (by walk_at "op") stx) (bo_mod (by omega)) stx) (congrArg D.int epl)) ?_ nd
    refine blk_set 8 (ev_bin (ev_bin (ev_lst (eva_cons (ev_tup (eva_cons ev_str (eva_cons (ev_name 7) eva_nil)) stx) eva_nil) stx) (ev_bt (eva_cons (ev_cmp (ev_name 7) ev_int (by walk_at "op") stx) eva_nil) co_intB stx T.zint boot_int) (bo_rep (rep_le _).1 (rep_le _).2) stx) (ev_lst (eva_cons (ev_tup (eva_cons ev_str (eva_cons (ev_ix ev_str (ev_bin (ev_name 4) ev_int (by walk_at "op") stx) (io_str (by decide) (xy_at c))) eva_nil)) stx) eva_nil) stx) (bo_addL (Nat.le_trans (Nat.add_le_add_right (rep_len _ _) _) (Nat.le_of_ble_eq_true rfl))) stx) ?_ nd
    refine blk_set 8 (ev_is (ev_bin (ev_name 8) (ev_bin (ev_lst (eva_cons (ev_tup (eva_cons ev_str (eva_cons (ev_bin (ev_name 6) (ev_name 7) (by walk_at "op") stx) eva_nil)) stx) eva_nil) stx) (ev_bt (eva_cons (ev_cmp (ev_name 7) (ev_name 6) (by walk_at "op") stx) eva_nil) co_intB stx T.zint boot_int) (bo_rep (rep_le _).1 (rep_le _).2) stx) (bo_addL (by
      rw [List.length_append]
      exact Nat.le_trans (Nat.add_le_add (Nat.add_le_add_right (rep_len _ _) _) (rep_len _ _)) (Nat.le_of_ble_eq_true rfl))) stx) (congrArg D.lst (ins_eq x.known.length (tkPl x.known.length c) ⟨#[xyC c]⟩))) ?_ nd
    have ser2 : atI ((x.serials.map D.int).set (c % (h : Int)).toNat (.int (x.serials.getD (c % (h : Int)).toNat 0 + 1))) (c % (h : Int)) = some (.int (x.serials.getD (c % (h : Int)).toNat 0 + 1)) := atI_of (n := (c % (h : Int)).toNat) (by omega) (List.getElem?_set_self (by rw [List.length_map]; exact hwl))
    have edone := done_ins x.known (tkPl x.known.length c) ⟨#[xyC c]⟩ hpl
    have hstep : tkStep x c = takeSt x (c % (h : Int)) (x.known.take (tkPl x.known.length c) ++ [xyC c] ++ x.known.drop (tkPl x.known.length c)) (.lst (insP x.known.length (tkPl x.known.length c) ⟨#[xyC c]⟩)) := by
      unfold tkStep
      rw [hsl]
    have rt : R_take A (svM A sv t q x) [.ref sv, .int (c % (h : Int)), .int (x.taken.length : Nat), .lst (insP x.known.length (tkPl x.known.length c) ⟨#[xyC c]⟩)] (.ok .non) (svM A sv t q (tkStep x c)) :=
      ⟨sv, t, q, x, _, x.taken.length, _, rfl, sok, rfl, w0, by omega, .inl ⟨_, rfl, rfl, ins_ok (xy_txt c), ins_ch (xy_txt c), .inl ⟨_, edone, rfl, by rw [hstep]⟩⟩⟩
    refine blk_expr (ev_methO [] [(la, .lst ((x.serials.map D.int).set (c % (h : Int)).toNat (.int (x.serials.getD (c % (h : Int)).toNat 0 + 1))))] (svM A sv t q x) (svM A sv t q (tkStep x c)) 0 k_came T.srv.cl hr (ev_name 0) (eva_cons (ev_tup (eva_cons ev_str (eva_cons (ev_name 5) (eva_cons (ev_ixO 3 (ev_name 3) (ev_name 5) ser2) (eva_cons (ev_meth0Q (m := svM A sv t q x) 0 (fun _ w => w.o.left) stx k_many T.srv.cl hr (ev_name 0) ⟨sv, t, q, x, rfl, rfl, rfl⟩) (eva_cons (ev_name 8) eva_nil))))) stx) eva_nil)
      ⟨sv, t, q, x, _, rfl, sok, rfl, .inr (.inr ⟨_, _, x.taken.length, _, rfl, ins_ok (xy_txt c), ins_ch (xy_txt c), w0, by omega, ?_, Nat.le_refl _, .inr ⟨rfl, .inl ⟨tkStep x c, rt, sok', by rw [o'.tl]; omega, rfl, rfl⟩⟩⟩)⟩) ?_
    · have := o.getD_nn (c % (h : Int)).toNat
      omega
    · refine blk_nil fun σ H' t so w => fin σ H' ?_ so ?_
      · exact ((((t.forget 4).forget 5).forget 6).forget 7).forget 8
      · have e : (tkStep x c).serials.map D.int = (x.serials.map D.int).set (c % (h : Int)).toNat (.int (x.serials.getD (c % (h : Int)).toNat 0 + 1)) := by
          rw [hstep]
          unfold takeSt
          rw [List.map_set]
        rw [e]
        exact w
  · rw [List.length_map, List.take_length]
    exact blk_retL 3 [(la, .lst ((tkRun x0 l).serials.map D.int))] hp (ev_name 3) rfl rfl (fun b z => .inl z) (sv_sub hS) nla
end
end Ink
/-! Ink34 -/
/-! Defs that may ask repr: they are called where nothing is being shown. The end of the law. -/
namespace Ink
open PySem PySem.Spec PyProof.Rows L2
/-- a def's promise where nothing is being shown -/
def RunG (B : Bs) (k : Nat) (f : Addr) (fd : FuncData) (ps : List Str) (sp : Sp) : Prop := ∀ (Ar : Around) (outer : List Env) (s : Shared) (H : Hp) (args : Args) (us : List Value) (vs : List V) (Q : VK) (E : XK), Room k Ar → Ar.guards = some [] → Env0 B.P B.w B.K B.mg B.base Ar outer s H → BindsTo s fd args (ps.zip us) → Vals vs us → sp vs H Q E →
  codeAny (model B.P B.w) Ar (.call (.ref f) args) (CR (CXN B) outer B.P B.w H s Q E) s
theorem guards_deeper {A : Around} {env : Env} (h : A.guards = some []) : (A.deeper env).guards = some [] := h
theorem runG_of {B : Bs} {x : Str} {st : Stmt} {f : Addr} {fd : FuncData} {N ps : List Str} {k : Nat} {sp : Sp} (F : Fun B.K x x st f fd) (sc : FnScope N ps (defScope st)) (len : ∀ vs H Q E, sp vs H Q E → vs.length = ps.length)
    (body : ∀ (cdv : Value) (A : Around) (outer : List Env) (s : Shared) (H : Hp) (vs : List V) (Q : VK) (E : XK), Room k (cx B N x st f cdv A outer s H E).A → (cx B N x st f cdv A outer s H E).A.guards = some [] → sp vs H Q E → WB (cx B N x st f cdv A outer s H E) (defBody st) { nx := fun _ H' => Q .non H', rt := Q } (L2.start N vs) H) : RunG B (k + 1) f fd ps sp := by
  obtain ⟨oc, od, kV, doc, pm, an, cdv, ct, osl, e, lk, hcd⟩ := F.ex
  subst e
  intro Ar outer s H args us vs Q E hr hg e0 bind rel hsp
  have kin : B.K.In s.heap := e0.mod.kin.keeps fun b o g => (e0.bs b o g).1
  have nolim := e0.mod.nolimit.keeps fun b o g => (e0.bs b o g).1
  have hl := len _ _ _ _ hsp
  have kinds : ∀ y ∈ ps.zip us, (defScope st).names.lookup y.1 = some .local ∨ ((defScope st).names.lookup y.1 = some .cell ∧ ((cellsFrom (s.heap.objs.size + 1) (defScope st).names []).lookup y.1).isSome = true) := fun ⟨y, v⟩ hy =>
    (sc.par y (List.of_mem_zip hy).1).elim Or.inl fun z => .inr ⟨z, PySem.W.cellsFrom_some _ _ _ (.inl z)⟩
  have hdep : Ar.depth < recursionLimit := by
    have := hr.dp
    omega
  refine codeAny_call_function hdep (kin _ _ lk) rfl sc.co sc.gen rfl (PySem.W.codeRec_of kin hcd) (bind _ _ _ _ (wpAny_newFunctionEnv_cells sc.kind kinds fun env he s1 x1 => ?_))
  subst he
  refine ⟨nolim.keeps x1.toInCall.keep, codeAny_func ?_⟩
  have I : Inv (cx B N x st f cdv Ar outer s H E) [] (L2.start N vs) H s1 := inv_start sc hr.hd e0 hl rel x1
  refine wpAny_mono (wb_pss.run [] s1 _ H _ I (body cdv Ar outer s H vs Q E (hr.deeper _) (guards_deeper hg) hsp)) (fun fl s' hs => ?_) fun _ _ z => z
  cases fl with
  | ret u =>
    obtain ⟨v, σ', H', J, rv, q⟩ := hs
    exact ⟨v, H', J.os, J.bare, J.base, J.hok, rv, q⟩
  | next =>
    obtain ⟨σ', H', J, q⟩ := hs
    exact ⟨.non, H', J.os, J.bare, J.base, J.hok, rfl, q⟩
  | brk =>
    obtain ⟨_, _, _, q⟩ := hs
    exact False.elim q
  | cont =>
    obtain ⟨_, _, _, q⟩ := hs
    exact False.elim q
def KG (B : Bs) (x : Str) (k n : Nat) (R : Trm) : Prop := ∃ f fd ps, RunG B k f fd ps (spO n R) ∧ ps.length = n ∧ B.mg x = some (.ref f) ∧ PySem.W.keepIn B.K (.ref f) = true ∧ Binds B.K fd ps []
section
variable {X : Cx} {S M : Set'} {Hs : Hp} {m : Ms} {G : Gm} {W W1 : As} {pos : Pos} {e : Expr} {es : List Expr} {d : D} {ds : List D} {x : Str} {k j n : Nat} {R : Trm} {mm mm' : Ms}
theorem ev_callG (l r m m' : Ms) {pf : Pos} (h : KG (bsOf X) x k n R) (hr : Room j X.A) (hgd : X.A.guards = some []) (ha : EvA X S (e :: es) G W ds (OB Hs M S mm)) (hR : R m ds (.ok d) m') (em : mm = l ++ (m ++ r) := by rfl) (em' : mm' = l ++ (m' ++ r) := by rfl) (ea : m'.map (·.1) = m.map (·.1) := by rfl) (hn : ds.length = n := by rfl) (hj : k ≤ j := by decide) (hg : Gl X x := by rfl)
    (hdb : (x == ("__debug__" : Str)) = false := by decide) (he : starEach (e :: es) X.env = (false, eval e X.env) :: starEach es X.env := by rfl) (hpl : (backTo pos (starEach es X.env)).any (·.1) = false := by rfl) : Ev X S (.Call (.Name x pf) (e :: es) [] pos) G W d (OB Hs M S mm') := fun σ H ty so w Q q => by
  subst em em'
  obtain ⟨f, fd, ps, run, hpn, hm, hk, hb⟩ := h
  refine ⟨fun σ H Q => WA X (e :: es) σ H fun vs H1 => spO n R vs H1 Q (fun _ _ _ => False), ⟨fun pins s σ H Q I z => ?_⟩, ha σ H ty so w _ fun vs H1 k1 w1 p1 => ⟨S, m, ds, .ok d, m', so.kept k1, p1, hn, w1.cut, hR, fun v H2 k2 o2 p2 => q v H2 (k1.trans (k2.weak (cutS_sub w1))) (w1.back k2 o2 ea) p2⟩⟩
  refine wpAny_Call_Name_kw (ld_glob I hg hm ?_ hdb)
  refine PySem.W.callWith_K (h₀ := X.base) I.ok.mod.kin hk (thn (wa_pa.run pos pins s σ H _ I z) fun us s1 ⟨vs, H1, I1, rel, sp1⟩ => ⟨I1.kIn, ?_⟩) he hpl
  have hl : us.length = ps.length := by
    rw [← rel.length, spO_len sp1, hpn]
  have bd := hb s1 us I1.kIn (by rw [List.append_nil]; exact hl)
  rw [List.append_nil] at bd
  refine wpAny_call (codeAny_mono (run _ _ s1 _ ⟨us, []⟩ us vs Q (fun _ _ _ => False) (hr.mono hj) hgd I1.env0 bd rel sp1) fun r s' hq => ?_)
  cases r with
  | error e => exact pass_f (X := X) (σ := σ) pins _ s1 e s' I1 hq
  | ok fl =>
    cases fl with
    | ret u => exact I1.after hq
    | next => exact False.elim hq
    | brk => exact False.elim hq
    | cont => exact False.elim hq
/-- repr -/
theorem call_reprD (hgd : X.A.guards = some []) (hu : X.A.units + 64 < cLine) : CallR X (.builtin "repr") (fun xs H Q => ∃ a dd, xs = [.ref a] ∧ Dp X.K H (.ref a) dd ∧ dd.showable = true ∧ dd.hasDict = false ∧ dd.depth ≤ 60 ∧ dd.shown.length ≤ sizeLine ∧ Q (.str dd.shown) H) := by
  intro pins s σ H xs us Q I r h
  obtain ⟨a, dd, rfl, hd, h1, h2, h3, h4, q⟩ := h
  cases r with
  | cons rx rr =>
    cases rr
    cases rx
    obtain ⟨as, rd⟩ := Dp.reads I dd (.ref a) (.ref a) hd rfl
    refine PySem.repr_of_reads' rd h1 (fun z => by rw [h2] at z; cases z) hgd (by omega) (fun b o e => e) (fun h' u tk hk => ?_) h4
    exact ⟨.str dd.shown, H, I.kept (t' := tk) hk, ⟨u, rfl⟩, q⟩
theorem call_reprN : CallR X (.builtin "repr") (fun xs H Q => xs = [.non] ∧ Q (.str "None") H) := by
  intro pins s σ H xs us Q I r h
  obtain ⟨rfl, q⟩ := h
  cases r with
  | cons rx rr =>
    cases rr
    cases rx
    exact PySem.P.repr_of_none ⟨.str "None", H, I.tok _, ⟨_, rfl⟩, q⟩
theorem co_reprN : CalO X (.builtin "repr") [.non] (.str "None") := ⟨_, call_reprN, fun S H vs _ hd Q k => by
  obtain ⟨v, rfl, pv⟩ := one_dat hd
  cases (show v = .non from pv)
  exact ⟨rfl, k _ H (Same.refl H) rfl⟩⟩
theorem co_reprL {l : List D} (hgd : X.A.guards = some []) (hu : X.A.units + 64 < cLine) (h0 : isPyL l = true) (h1 : (py (.lst l)).showable = true) (h2 : (py (.lst l)).hasDict = false) (h3 : (py (.lst l)).depth ≤ 60) (h4 : (py (.lst l)).shown.length ≤ sizeLine) : CalO X (.builtin "repr") [.lst l] (.str (py (.lst l)).shown) := ⟨_, call_reprD hgd hu, fun S H vs _ hd Q k => by
  obtain ⟨v, rfl, pv⟩ := one_dat hd
  have dp := dp_of (K := X.K) (.lst l) v h0 pv
  obtain ⟨a, ws, rfl, _⟩ := pv
  exact ⟨a, _, rfl, dp, h1, h2, h3, h4, k _ H (Same.refl H) rfl⟩⟩
end
end Ink
/-! Ink35 -/
/-! Data that equals itself; the law's defs all, early. -/
namespace Ink
open PySem PySem.Spec PyProof.Rows L2
local macro_rules | `(tactic| walk_at "op") => `(tactic| first
  | exact bo_add | exact bo_sub | exact bo_mod (by decide) | exact bo_fdiv (by decide) | exact bo_lt | exact bo_le | exact bo_gt | exact bo_ge | exact bo_eqI | exact bo_neI | exact bo_eqS | exact bo_neS | exact bo_in2 | exact bo_pow (by decide) | exact bo_addL (Nat.le_of_ble_eq_true rfl) | exact bo_eq | exact bo_ne)
local macro_rules | `(tactic| walk_at "ix") => `(tactic| first | exact io_tup rfl | exact io_lst rfl)
def clean : Nat → D → Bool
  | _, .non => true
  | _, .bl _ => true
  | _, .int _ => true
  | _, .str x => strC x
  | n + 1, .tup l => l.all (clean n)
  | n + 1, .lst l => l.all (clean n)
  | _, _ => false
structure PyOk (n : Nat) (d : D) : Prop where
  ip : isPy d = true
  lay : (py d).canLay0 = true
  dep : (py d).depth ≤ n
  eqv : PyData.eqv (py d) (py d) = true
theorem clean_all {n : Nat} (ih : ∀ d, clean n d = true → PyOk n d) : ∀ {l : List D}, l.all (clean n) = true → isPyL l = true ∧ PyData.canLayAll0 (pyL l) = true ∧ PyData.depthAll (pyL l) ≤ n ∧ PyData.eqvAll (pyL l) (pyL l) = true
  | [], _ => ⟨rfl, rfl, by simp [pyL, PyData.depthAll], by simp [pyL, PyData.eqvAll]⟩
  | d :: l, h => by
    rw [List.all_cons, Bool.and_eq_true] at h
    obtain ⟨a1, a2, a3, a4⟩ := ih d h.1
    obtain ⟨b1, b2, b3, b4⟩ := clean_all ih h.2
    refine ⟨?_, ?_, ?_, ?_⟩
    · show (isPy d && isPyL l) = true
      rw [a1, b1]; rfl
    · show ((py d).canLay0 && PyData.canLayAll0 (pyL l)) = true
      rw [a2, b2]; rfl
    · simp only [pyL, PyData.depthAll]
      omega
    · simp only [pyL, PyData.eqvAll]
      rw [a4, b4]; rfl
theorem clean_ok : ∀ (n : Nat) (d : D), clean n d = true → PyOk n d
  | n, .non, _ => ⟨rfl, rfl, by simp [py, PyData.depth], by simp [py, PyData.eqv]⟩
  | n, .bl _, _ => ⟨rfl, rfl, by simp [py, PyData.depth], by simp [py, PyData.eqv]⟩
  | n, .int _, _ => ⟨rfl, rfl, by simp [py, PyData.depth], by simp [py, PyData.eqv]⟩
  | n, .str x, h => ⟨rfl, by cases n <;> exact h, by simp [py, PyData.depth], by simp [py, PyData.eqv]⟩
  | n + 1, .tup l, h => by
    obtain ⟨b1, b2, b3, b4⟩ := clean_all (clean_ok n) (l := l) h
    exact ⟨b1, b2, by simp only [py, PyData.depth]; omega, by simp only [py, PyData.eqv]; exact b4⟩
  | n + 1, .lst l, h => by
    obtain ⟨b1, b2, b3, b4⟩ := clean_all (clean_ok n) (l := l) h
    exact ⟨b1, b2, by simp only [py, PyData.depth]; omega, by simp only [py, PyData.eqv]; exact b4⟩
  | 0, .tup _, h => nomatch h
  | 0, .lst _, h => nomatch h
  | 0, .dct, h => nomatch h
  | 0, .ref _, h => nomatch h
  | 0, .ty _, h => nomatch h
  | _ + 1, .dct, h => nomatch h
  | _ + 1, .ref _, h => nomatch h
  | _ + 1, .ty _, h => nomatch h
theorem shp_clean {d : D} (h : clean 9 d = true) : SeqAt.shaped (py d) = true := by
  obtain ⟨a1, a2, a3, a4⟩ := clean_ok 9 d h
  unfold SeqAt.shaped
  rw [Bool.and_eq_true]
  exact ⟨a2, decide_eq_true (by omega)⟩
section
variable {X : Cx} {d : D}
theorem bo_eqC (hu : X.A.units + 64 < cLine) (h : clean 9 d = true) : CO X .Eq d d (.bl true) := by
  have z := bo_eqD (X := X) hu (clean_ok 9 d h).ip (clean_ok 9 d h).ip (shp_clean h) (shp_clean h)
  rw [(clean_ok 9 d h).eqv] at z
  exact z
theorem bo_neC (hu : X.A.units + 64 < cLine) (h : clean 9 d = true) : CO X .NotEq d d (.bl false) := by
  have z := bo_neD (X := X) hu (clean_ok 9 d h).ip (clean_ok 9 d h).ip (shp_clean h) (shp_clean h)
  rw [(clean_ok 9 d h).eqv] at z
  exact z
end
theorem strC_K {l : List Nat} (h : l.all inK = true) : strC (Sx l) = true := strC_of (by rw [sx_codes]; exact allK_SG h)
/-! all -/
def FlOk (fl : D) (se : Int) : Prop := (fl = .non ∧ se = 0) ∨ (fl = .lst row2 ∧ se = 1)
def showF : D → Str
  | .non => "None"
  | d => (py d).shown
def showN (own se : Int) (fl : D) : Str := (py (.lst (nudgeL ⟨own, [], 0, se, fl, .non⟩))).shown
def allD (x : SvS) (own : Int) (held : List Nat) (se : Int) (fl : D) : D := .tup [.str (Sx x.known), .int (x.taken.length : Int), .str (Sx held), .int 0, .str (showF fl), .str (showN own se fl)]
def shB (d : PyData) : Bool := d.showable && !d.hasDict && decide (d.depth ≤ 60) && decide (d.shown.length ≤ 1000) && strC d.shown
theorem sh_row2 : shB (py (.lst row2)) = true := by decide +kernel
theorem sh_nudge : ∀ own ∈ [(0 : Int), 1, 2, 3, 4, 5, 6, 7], shB (py (.lst (nudgeL ⟨own, [], 0, 0, .non, .non⟩))) = true ∧ shB (py (.lst (nudgeL ⟨own, [], 0, 1, .lst row2, .non⟩))) = true := by decide +kernel
theorem shB_inv {d : PyData} (h : shB d = true) : d.showable = true ∧ d.hasDict = false ∧ d.depth ≤ 60 ∧ d.shown.length ≤ 1000 ∧ strC d.shown = true := by
  unfold shB at h
  simp only [Bool.and_eq_true, decide_eq_true_eq, Bool.not_eq_true'] at h
  obtain ⟨⟨⟨⟨a, b⟩, c⟩, d⟩, e⟩ := h
  exact ⟨a, b, c, d, e⟩
theorem nudge_sh {own se : Int} {fl : D} (h0 : 0 ≤ own) (h7 : own ≤ 7) (hf : FlOk fl se) : shB (py (.lst (nudgeL ⟨own, [], 0, se, fl, .non⟩))) = true := by
  have hm : own ∈ [(0 : Int), 1, 2, 3, 4, 5, 6, 7] := by
    have : own = 0 ∨ own = 1 ∨ own = 2 ∨ own = 3 ∨ own = 4 ∨ own = 5 ∨ own = 6 ∨ own = 7 := by omega
    rcases this with rfl | rfl | rfl | rfl | rfl | rfl | rfl | rfl <;> decide
  rcases hf with ⟨rfl, rfl⟩ | ⟨rfl, rfl⟩
  · exact (sh_nudge own hm).1
  · exact (sh_nudge own hm).2
theorem isPy_nudge {own se : Int} {fl : D} (hf : FlOk fl se) : isPyL (nudgeL ⟨own, [], 0, se, fl, .non⟩) = true := by
  rcases hf with ⟨rfl, rfl⟩ | ⟨rfl, rfl⟩ <;> rfl
theorem allD_clean {x : SvS} {own se : Int} {held : List Nat} {fl : D} (h0 : 0 ≤ own) (h7 : own ≤ 7) (hf : FlOk fl se) (hk : x.known.all inK = true) (hh : held.all inK = true) : clean 9 (allD x own held se fl) = true := by
  have e1 := (shB_inv (nudge_sh h0 h7 hf)).2.2.2.2
  have e2 : strC (showF fl) = true := by
    rcases hf with ⟨rfl, rfl⟩ | ⟨rfl, rfl⟩
    · decide +kernel
    · exact (shB_inv sh_row2).2.2.2.2
  show (strC (Sx x.known) && (true && (strC (Sx held) && (true && (strC (showF fl) && (strC (showN own se fl) && true)))))) = true
  rw [strC_K hk, strC_K hh, e2]
  show (true && (true && (true && (true && (true && (strC (showN own se fl) && true)))))) = true
  rw [show strC (showN own se fl) = true from e1]
  rfl
section
variable {B : Bs} {A : Ad}
def R_all (A : Ad) (m : Ms) (ds : List D) (r : Res) (m' : Ms) : Prop := ∃ sv t q x hd kp own held se fl, m = svM A sv t q x ++ hdM A hd kp ⟨own, held, 0, se, fl, .non⟩ .dk0 ∧ ds = [.ref sv, .ref hd] ∧ 0 ≤ own ∧ own ≤ 7 ∧ FlOk fl se ∧ m' = m ∧ r = .ok (allD x own held se fl)
theorem ok_all (W : TxtW B A) : KG B "_law_all" 3 2 (R_all A) := by
  have T := W.T
  obtain ⟨f, fd, F, m⟩ := W.d_all
  have k_text := ok_sv_text T
  have k_many := ok_sv_many T
  have k_htext := ok_hd_text T
  have k_seen := ok_hd_seen T
  have k_flight := ok_hd_flight T
  have k_nudge := ok_hd_nudge T
  refine ⟨f, fd, ["_law_server", "_law_hand"], runG_of F c_w_all (fun vs H Q E h => spO_len h) (fun cdv A' outer s H vs Q E hr hgd h => bodyO h (by decide) fun S m ds r m' hl hR hS hp => ?_), rfl, m, F.kp, F.binds fun _ _ _ _ _ _ us hl => match us, hl with | [_, _], _ => rfl⟩
  obtain ⟨sv, t, q, x, hd, kp, own, held, se, fl, rfl, rfl, h0, h7, hf, rfl, rfl⟩ := hR
  have nd := c_w_all.nd
  have hu := hr.un
  have hu2 : (cx B n_w_all "_law_all" s_w_all f cdv A' outer s H E).A.units + 64 < cLine := by omega
  have hch : isChN fl = true := by rcases hf with ⟨rfl, rfl⟩ | ⟨rfl, rfl⟩ <;> rfl
  refine blk_set 2 (ev_tup (eva_cons (ev_meth0Q (m := svM A sv t q x) 0 (fun _ w => w.o.left) stb_OB k_text T.srv.cl hr (ev_name 0) ⟨sv, t, q, x, rfl, rfl, rfl⟩) (eva_cons (ev_meth0Q (m := svM A sv t q x) 0 (fun _ w => w.o.left) stb_OB k_many T.srv.cl hr (ev_name 0) ⟨sv, t, q, x, rfl, rfl, rfl⟩) (eva_cons (ev_meth0Q (m := hdM A hd kp ⟨own, held, 0, se, fl, .non⟩ .dk0) 0 (fun _ w => w.o.right) stb_OB k_htext T.hnd.cl hr (ev_name 1) ⟨hd, kp, _, rfl, rfl, rfl⟩) (eva_cons (ev_meth0Q (m := hdM A hd kp ⟨own, held, 0, se, fl, .non⟩ .dk0) 0 (fun _ w => w.o.right) stb_OB k_seen T.hnd.cl hr (ev_name 1) ⟨hd, kp, _, rfl, rfl, rfl⟩) eva_nil)))) stb_OB) ?_ nd
  have nsh := shB_inv (nudge_sh (own := own) h0 h7 hf)
  have e1 : D.lst (nudgeL ⟨own, held, 0, se, fl, .non⟩) = .lst (nudgeL ⟨own, [], 0, se, fl, .non⟩) := by
    rcases hf with ⟨rfl, rfl⟩ | ⟨rfl, rfl⟩ <;> rfl
  have rN : CalO (cx B n_w_all "_law_all" s_w_all f cdv A' outer s H E) (.builtin "repr") [.lst (nudgeL ⟨own, held, 0, se, fl, .non⟩)] (.str (showN own se fl)) := by
    rw [e1]
    exact co_reprL hgd hu2 (isPy_nudge hf) nsh.1 nsh.2.1 nsh.2.2.1 (Nat.le_trans nsh.2.2.2.1 (by decide))
  have rF : CalO (cx B n_w_all "_law_all" s_w_all f cdv A' outer s H E) (.builtin "repr") [fl] (.str (showF fl)) := by
    rcases hf with ⟨rfl, rfl⟩ | ⟨rfl, rfl⟩
    · exact co_reprN
    · have z := shB_inv sh_row2
      exact co_reprL hgd hu2 rfl z.1 z.2.1 z.2.2.1 (Nat.le_trans z.2.2.2.1 (by decide))
  exact blk_retO hp (ev_bin (ev_name 2) (ev_tup (eva_cons (ev_bi (eva_cons (ev_meth0Q (m := hdM A hd kp ⟨own, held, 0, se, fl, .non⟩ .dk0) 0 (fun _ w => w.o.right) stb_OB k_flight T.hnd.cl hr (ev_name 1) ⟨hd, kp, _, rfl, rfl, hch, rfl⟩) eva_nil) rF stb_OB T.zrepr boot_repr) (eva_cons (ev_bi (eva_cons (ev_meth0O (svM A sv t q x) [] (hdM A hd kp ⟨own, held, 0, se, fl, .non⟩ .dk0) (hdM A hd kp ⟨own, held, 0, se, fl, .non⟩ .dk0) 3 k_nudge T.hnd.cl hr (ev_name 1) ⟨hd, kp, _, rfl, rfl, hch, rfl, rfl⟩) eva_nil) rN stb_OB T.zrepr boot_repr) eva_nil)) stb_OB) (bo_addT (by exact Nat.le_of_ble_eq_true rfl) (by intro z; cases z) (by intro z; cases z)) stb_OB) rfl
/-! early -/
def qS : Str := Str.ofString "q"
def R_early (A : Ad) (m : Ms) (ds : List D) (r : Res) (m' : Ms) : Prop := ∃ sv t q x, m = svM A sv t q x ∧ SvOk x ∧ ds = [.ref sv] ∧ m' = m ∧ r = .ok (.bl true)
theorem numB_far {n : Nat} {lo : Int} : numB (.int ((n : Int) + 1)) lo n = false := by
  rw [numB_int, decide_eq_false (show ¬ (n : Int) + 1 ≤ n by omega), Bool.and_false]
theorem good5 {x : SvS} {a b c d e : D} : goodS x (.tup [a, b, c, d, e]) = askD [a, b, c, d, e] x.serials.length x.taken.length := by
  show (againD [a, b, c, d, e] x.serials.length x.taken.length || askD [a, b, c, d, e] x.serials.length x.taken.length) = _
  rw [againD_len (show ¬ [a, b, c, d, e].length = 3 from by simp), Bool.false_or]
theorem good3 {x : SvS} {a b c : D} : goodS x (.tup [a, b, c]) = againD [a, b, c] x.serials.length x.taken.length := by
  show (againD [a, b, c] x.serials.length x.taken.length || askD [a, b, c] x.serials.length x.taken.length) = _
  rw [askD_len (show ¬ [a, b, c].length = 5 from by simp), Bool.or_false]
theorem ask_far {x : SvS} {a s c : D} : goodS x (.tup [.str askS, a, s, .int ((x.taken.length : Int) + 1), c]) = false := by
  rw [good5, askD_eq, numB_far]
  simp
theorem again_far {x : SvS} {a : D} : goodS x (.tup [.str againS, a, .int ((x.taken.length : Int) + 1)]) = false := by
  rw [good3, againD_eq, numB_far]
  simp
theorem ok_early (W : TxtW B A) : Ko B "_law_early" 9 1 (R_early A) := by
  have T := W.T
  obtain ⟨f, fd, F, m⟩ := T.d_w_early
  have k_many := ok_sv_many T
  have k_num := ok_numref W
  have k_ref := ok_srvref W
  refine ko_of F m (F.binds fun _ _ _ _ _ _ us hl => match us, hl with | [_], _ => rfl) c_w_early rfl (by decide) fun cdv A' outer s H Q E hr S m ds r m' hl hR hS hp => ?_
  obtain ⟨sv, t, q, x, rfl, hx, rfl, rfl, rfl⟩ := hR
  have nd := c_w_early.nd
  refine blk_set 1 (ev_meth0Q (m := svM A sv t q x) 0 (fun _ w => w.o) stb_OB k_many T.srv.cl hr (ev_name 0) ⟨sv, t, q, x, rfl, rfl, rfl⟩) ?_ nd
  refine blk_if (et_is (et_cmp (ev_callQ (m := svM A sv t q x) k_num hr (eva_cons (ev_name 0) (eva_cons (ev_bin (ev_name 1) ev_int (by walk_at "op") stb_OB) eva_nil)) (fun _ w => w.o) stb_OB ⟨.exc A.gone, "gone", ⟨sv, t, q, x, _, rfl, hx, rfl, rfl, .inl ⟨numB_far, rfl⟩⟩, ew_gone W, rfl⟩) ev_str (by walk_at "op") stb_OB) (show (!decide (Str.ofString "gone" = Str.ofString "gone")) = false by rw [decide_eq_true rfl]; rfl)) (fun h => Bool.noConfusion h) (fun _ => blk_on ?_)
  refine blk_if (et_is (et_cmp (ev_callO [] [] (svM A sv t q x) (svM A sv t q x) k_ref hr (eva_cons (ev_name 0) (eva_cons (ev_tup (eva_cons ev_str (eva_cons ev_int (eva_cons (ev_bin ev_int ev_int (by walk_at "op") stb_OB) (eva_cons (ev_bin (ev_name 1) ev_int (by walk_at "op") stb_OB) (eva_cons (ev_lst (eva_cons (ev_tup (eva_cons ev_str (eva_cons ev_str eva_nil)) stb_OB) eva_nil) stb_OB) eva_nil))))) stb_OB) eva_nil)) ⟨.exc A.letter, "letter", ⟨sv, t, q, x, _, rfl, hx, rfl, .inr (.inl ⟨by rfl, ask_far, rfl, rfl⟩)⟩, ew_letter W, rfl⟩) ev_str (by walk_at "op") stb_OB) (show (!decide (Str.ofString "letter" = Str.ofString "letter")) = false by rw [decide_eq_true rfl]; rfl)) (fun h => Bool.noConfusion h) (fun _ => blk_on ?_)
  exact blk_retO hp (ev_is (ev_cmp (ev_callO [] [] (svM A sv t q x) (svM A sv t q x) k_ref hr (eva_cons (ev_name 0) (eva_cons (ev_tup (eva_cons ev_str (eva_cons ev_int (eva_cons (ev_bin (ev_name 1) ev_int (by walk_at "op") stb_OB) eva_nil))) stb_OB) eva_nil)) ⟨.exc A.letter, "letter", ⟨sv, t, q, x, _, rfl, hx, rfl, .inr (.inl ⟨rfl, again_far, rfl, rfl⟩)⟩, ew_letter W, rfl⟩) ev_str (by walk_at "op") stb_OB) (congrArg D.bl (decide_eq_true rfl))) rfl
end
end Ink
/-! Ink36 -/
/-! The law's defs: cut, goes_on, later. -/
namespace Ink
open PySem PySem.Spec PyProof.Rows L2
local macro_rules | `(tactic| walk_at "op") => `(tactic| first
  | exact bo_add | exact bo_sub | exact bo_mod (by decide) | exact bo_fdiv (by decide) | exact bo_lt | exact bo_le | exact bo_gt | exact bo_ge | exact bo_eqI | exact bo_neI | exact bo_eqS | exact bo_neS | exact bo_in2 | exact bo_pow (by decide) | exact bo_addL (Nat.le_of_ble_eq_true rfl) | exact bo_eq | exact bo_ne)
local macro_rules | `(tactic| walk_at "ix") => `(tactic| first | exact io_tup rfl | exact io_lst rfl)
section
variable {X : Cx} {S : Set'} {G : Gm} {W W1 W2 : As} {a b : Expr} {pos p pr pp : Pos} {rest : List Expr} {y : Bool}
theorem ew_orF2 (h : EvT X S a G W false W1) (k : EvW X S (.BoolOp .Or (b :: rest) pos) G W1 y W2) : EvW X S (.BoolOp .Or (a :: b :: rest) pos) G W y W2 := fun σ H ty so w Q q =>
  ⟨_, pw_or wt_pt ww_pw, h σ H ty so w _ fun H1 k1 w1 => iteF (k σ H1 (ty.kept k1) (so.kept k1) w1 _ fun H2 k2 w2 => q H2 (k1.trans k2) w2)⟩
theorem ew_one_or2 {c : Bool} (h : EvT X S a G W c W1) : EvW X S (.BoolOp .Or [a] pos) G W c W1 := ew_one_or h
theorem ev_listRg {lo hi : Expr} {i0 i1 : Int} (h1 : Ev X S lo G W (.int i0) W1) (h2 : Ev X S hi G W1 (.int i1) W2) (hs : Stb W2) (hb : 0 ≤ i0 ∧ i0 ≤ 1000 ∧ 0 ≤ i1 ∧ i1 ≤ 1000) (hm : X.mg "list" = none) (hr : X.mg "range" = none) (hc : X.calm = true := by rfl) (hg : Gl X "list" := by rfl) (hgr : Gl X "range" := by rfl)
    (na : starEach [.Call (.Name "range" pr) [lo, hi] [] pp] X.env = (false, eval (.Call (.Name "range" pr) [lo, hi] [] pp) X.env) :: starEach [] X.env := by rfl) (q1 : starEach [lo, hi] X.env = (false, eval lo X.env) :: starEach [hi] X.env := by rfl) (q2 : starEach [hi] X.env = (false, eval hi X.env) :: starEach [] X.env := by rfl) (q3 : (backTo pp (starEach [hi] X.env)).any (·.1) = false := by rfl) :
    Ev X S (.Call (.Name "list" p) [.Call (.Name "range" pr) [lo, hi] [] pp] [] pos) G W (.lst ((List.range (i1 - i0).toNat).map fun (i : Nat) => .int (i0 + (i : Int)))) W2 := fun σ H ty so w Q q => by
  refine ⟨_, pe_listRg hc hg hm (prg_2 hgr hr we_pe we_pe q1 q2 q3) na, h1 σ H ty so w _ fun x H1 k1 w1 p1 => h2 σ H1 (ty.kept k1) (so.kept k1) w1 _ fun y H2 k2 w2 p2 => ?_⟩
  cases (show x = .int i0 from p1)
  cases (show y = .int i1 from p2)
  refine ⟨i0, i1, rfl, rfl, RgOk.of_le (by omega) (by omega) (by omega) (by omega), fun n hn => q _ _ ((k1.trans k2).trans (Same.kept (Same.new hn))) (hs _ _ w2 (Same.new hn)) (dat_new_lst (so.kept (k1.trans k2)) hn ?_)⟩
  have e : ∀ (l : List Nat), DatL S H2 (l.map fun (i : Nat) => V.int (i0 + (i : Int))) (l.map fun (i : Nat) => D.int (i0 + (i : Int))) := fun l => by
    induction l with
    | nil => exact rfl
    | cons a l ih => exact ⟨_, _, rfl, rfl, ih⟩
  exact e _
end
section
variable {B : Bs} {A : Ad}
/-- what holds of the server behind the first changes -/
structure LtOk (x : SvS) (k h : Nat) : Prop where
  kn : x.known.all inK = true
  k3 : 3 ≤ x.known.length
  k9 : x.known.length ≤ 40
  tl : x.taken.length = k
  t9 : k ≤ 20
  ch : ∀ p ∈ x.taken, ∃ l, p.2 = .lst l
  sl : x.serials.length = h
  h1 : 1 ≤ h
  h8 : h ≤ 8
  sn : 0 ≤ x.serials.getD 0 0 ∧ x.serials.getD 0 0 ≤ k
theorem LtOk.sv {x : SvS} {k h : Nat} (o : LtOk x k h) : SvOk x := ⟨allK_SG o.kn, by have := o.k9; omega, by have := o.t9; have := o.tl; omega, o.ch, by have := o.h8; have := o.sl; omega⟩
theorem LtOk.step {x : SvS} {k h : Nat} (o : LtOk x k h) (y : List Nat) (l : List D) (h1 : y.all inK = true) (h2 : 3 ≤ y.length) (h3 : y.length ≤ 40) (h4 : k + 1 ≤ 20) : LtOk (takeSt x 0 y (.lst l)) (k + 1) h := by
  have s1 := o.sl
  have s2 := o.h1
  refine ⟨h1, h2, h3, ?_, h4, fun p hp => ?_, ?_, o.h1, o.h8, ?_⟩
  · show (x.taken ++ _).length = _
    rw [List.length_append, o.tl]
    rfl
  · rcases List.mem_append.mp (show p ∈ x.taken ++ _ from hp) with z | z
    · exact o.ch p z
    · rw [List.mem_singleton] at z
      exact ⟨l, by rw [z]⟩
  · show (x.serials.set _ _).length = h
    rw [List.length_set, o.sl]
  · have e : (takeSt x 0 y (.lst l)).serials.getD 0 0 = x.serials.getD 0 0 + 1 := by
      show (x.serials.set 0 (x.serials.getD 0 0 + 1)).getD 0 0 = _
      rw [List.getD_eq_getElem?_getD, List.getElem?_set_self (by omega)]
      rfl
    rw [e]
    have := o.sn
    omega
theorem tk0_ser {x : SvS} {k h : Nat} (o : LtOk x k h) (y : List Nat) (d : D) : (takeSt x 0 y d).serials.getD 0 0 = x.serials.getD 0 0 + 1 := by
  have s1 := o.sl
  have s2 := o.h1
  show (x.serials.set 0 (x.serials.getD 0 0 + 1)).getD 0 0 = _
  rw [List.getD_eq_getElem?_getD, List.getElem?_set_self (by omega)]
  rfl
/-- an ask of hand 0 that fits -/
theorem came0 {sv t q : Addr} {x : SvS} {k h : Nat} (o : LtOk x k h) {l : List D} {y : List Nat} {s : Int} (h1 : okCh (.lst l) = true) (h2 : changeD (.lst l) = true) (h3 : doneF x.known l = some y) (o' : LtOk (takeSt x 0 y (.lst l)) (k + 1) h) (hs : s = x.serials.getD 0 0 + 1) :
    R_came A (svM A sv t q x) [.ref sv, .tup (asL 0 s x.taken.length (.lst l))] (.ok (.lst ((List.range h).map fun (i : Nat) => tookL (takeSt x 0 y (.lst l)) i (k + 1)))) (svM A sv t q (takeSt x 0 y (.lst l))) := by
  have s1 := o.sl
  have s2 := o.h1
  have s3 := o.sn
  have rt : R_take A (svM A sv t q x) [.ref sv, .int 0, .int (x.taken.length : Nat), .lst l] (.ok .non) (svM A sv t q (takeSt x 0 y (.lst l))) :=
    ⟨sv, t, q, x, 0, x.taken.length, .lst l, rfl, o.sv, rfl, Int.le_refl 0, by omega, .inl ⟨l, rfl, rfl, h1, h2, .inl ⟨y, h3, rfl, rfl⟩⟩⟩
  refine ⟨sv, t, q, x, _, rfl, o.sv, rfl, .inr (.inr ⟨0, s, x.taken.length, .lst l, rfl, h1, h2, Int.le_refl 0, by omega, by omega, Nat.le_refl _, .inr ⟨hs, .inl ⟨_, rt, o'.sv, by rw [o'.tl]; omega, rfl, ?_⟩⟩⟩)⟩
  rw [o'.sl, o'.tl]
  rfl
theorem sx_from1 (c : Nat) (r : List Nat) : cutS (Sx (c :: r)) (some 1) none = Sx r := by
  have e : cutS (Sx (c :: r)) (some ((1 : Nat) : Int)) (some (((c :: r).length : Nat) : Int)) = Sx r := by
    rw [sx_cut]
    simp
  have e2 : cutS (Sx (c :: r)) (some 1) none = cutS (Sx (c :: r)) (some ((1 : Nat) : Int)) (some (((c :: r).length : Nat) : Int)) := by
    unfold cutS
    rw [HT.sIx_nat, sx_len, Nat.min_self]
    rfl
  rw [e2, e]
def R_cut (A : Ad) (m : Ms) (ds : List D) (r : Res) (m' : Ms) : Prop := ∃ sv t q x k h c rest s, m = svM A sv t q x ∧ LtOk x k h ∧ 4 ≤ x.known.length ∧ k + 1 ≤ 20 ∧ x.known = c :: rest ∧ ds = [.ref sv, .int s] ∧ s = x.serials.getD 0 0 + 1 ∧ r = .ok (.bl true) ∧ m' = svM A sv t q (takeSt x 0 rest (.lst [cutP ⟨#[c]⟩, keepP ((rest.length : Int))]))
theorem ok_cut (W : TxtW B A) : Ko B "_law_cut" 9 2 (R_cut A) := by
  have T := W.T
  obtain ⟨f, fd, F, m⟩ := T.d_w_cut
  have k_text := ok_sv_text T
  have k_many := ok_sv_many T
  have k_came := ok_sv_came T
  have k_ref := ok_srvref W
  refine ko_of F m (F.binds fun _ _ _ _ _ _ us hl => match us, hl with | [_, _], _ => rfl) c_w_cut rfl (by decide) fun cdv A' outer s0 H Q E hr S m ds r m' hl hR hSS hp => ?_
  obtain ⟨sv, t, q, ⟨known, taken, serials⟩, k, h, c, rest, s, rfl, o, h4, hk, e, rfl, hs, rfl, rfl⟩ := hR
  cases (show known = c :: rest from e)
  have nd := c_w_cut.nd
  generalize hx : (⟨c :: rest, taken, serials⟩ : SvS) = x at o hSS hp hs ⊢
  have ek : x.known = c :: rest := by rw [← hx]
  have hkn := o.kn
  rw [ek, List.all_cons, Bool.and_eq_true] at hkn
  have hlen : rest.length + 1 = x.known.length := by rw [ek]; rfl
  have h4' : 4 ≤ x.known.length := by rw [ek]; exact h4
  have hc : CutT ⟨#[c]⟩ := ⟨rfl, by
    show ([c] : List Nat).all inSG = true
    rw [List.all_cons, inK_SG hkn.1]
    rfl⟩
  have hne : (⟨#[c]⟩ : Str) ≠ hS := fun z => by
    have e2 : c = 35 := by
      have := congrArg (fun y : Str => y.cps.toList) z
      have z2 : [c] = [35] := this
      injection z2
    rw [e2] at hkn
    exact absurd hkn.1 (by decide)
  obtain ⟨c1, o1⟩ := cut_row hc (show 0 < (rest.length : Int) by omega)
  have d1 := okCh_row (Nat.le_of_ble_eq_true rfl) o1
  have o' := o.step rest [cutP ⟨#[c]⟩, keepP (rest.length : Int)] hkn.2 (by omega) (by have := o.k9; omega) hk
  have dn : doneF x.known [cutP ⟨#[c]⟩, keepP (rest.length : Int)] = some rest := by
    rw [ek]
    exact done_cut1 c rest _ rfl
  have cm := came0 (A := A) (sv := sv) (t := t) (q := q) o d1 c1 dn o' hs
  generalize hx' : takeSt x 0 rest (.lst [cutP ⟨#[c]⟩, keepP (rest.length : Int)]) = x' at o' cm hp ⊢
  have ek' : x'.known = rest := by rw [← hx']; rfl
  have hsx : (Sx x.known).length ≤ 1000 := by
    rw [sx_len]
    have := o.k9
    omega
  have esz : ((Sx x.known).length : Int) - 1 = (rest.length : Int) := by
    rw [sx_len]
    omega
  refine blk_set 2 (ev_meth0Q (m := svM A sv t q x) 0 (fun _ w => w.o) stb_OB k_many T.srv.cl hr (ev_name 0) ⟨sv, t, q, x, rfl, rfl, rfl⟩) ?_ nd
  refine blk_set 3 (ev_meth0Q (m := svM A sv t q x) 0 (fun _ w => w.o) stb_OB k_text T.srv.cl hr (ev_name 0) ⟨sv, t, q, x, rfl, rfl, rfl⟩) ?_ nd
  refine blk_expr (ev_methO [] [] (svM A sv t q x) (svM A sv t q x') 0 k_came T.srv.cl hr (ev_name 0) (eva_cons (ev_tup (eva_cons ev_str (eva_cons ev_int (eva_cons (ev_name 1) (eva_cons (ev_name 2) (eva_cons (ev_lst (eva_cons (ev_tup (eva_cons ev_str (eva_cons (ev_ix (ev_name 3) ev_int (io_str hsx (show atI (Sx x.known).cps.toList 0 = some c by rw [sx_codes, ek]; exact atI_of (n := 0) rfl rfl))) eva_nil)) stb_OB) (eva_cons (ev_tup (eva_cons ev_str (eva_cons (ev_is (ev_bin (ev_bi (eva_cons (ev_name 3) eva_nil) (co_len_str hsx) stb_OB T.zlen boot_len) ev_int (by walk_at "op") stb_OB) (congrArg D.int esz)) eva_nil)) stb_OB) eva_nil)) stb_OB) eva_nil))))) stb_OB) eva_nil) cm) ?_
  refine blk_set 4 (ev_tup (eva_cons ev_str (eva_cons ev_int (eva_cons (ev_bin (ev_name 1) ev_int (by walk_at "op") stb_OB) (eva_cons (ev_name 2) (eva_cons (ev_lst (eva_cons (ev_tup (eva_cons ev_str (eva_cons ev_str eva_nil)) stb_OB) (eva_cons (ev_tup (eva_cons ev_str (eva_cons (ev_is (ev_bin (ev_bi (eva_cons (ev_name 3) eva_nil) (co_len_str hsx) stb_OB T.zlen boot_len) ev_int (by walk_at "op") stb_OB) (congrArg D.int esz)) eva_nil)) stb_OB) eva_nil)) stb_OB) eva_nil))))) stb_OB) ?_ nd
  have etx : cutS (Sx x.known) (some 1) none = Sx x'.known := by rw [ek, ek', sx_from1]
  obtain ⟨c2, o2⟩ := cut_row cutT_h (show 0 < (rest.length : Int) by omega)
  have d2 := okCh_row (Nat.le_of_ble_eq_true rfl) o2
  have etk : x'.taken = x.taken ++ [((0 : Int), .lst [cutP ⟨#[c]⟩, keepP (rest.length : Int)])] := by rw [← hx']; rfl
  have eser : x'.serials.getD 0 0 = x.serials.getD 0 0 + 1 := by rw [← hx']; exact tk0_ser o _ _
  have rt : R_take A (svM A sv t q x') [.ref sv, .int 0, .int (x.taken.length : Nat), .lst [cutP hS, keepP (rest.length : Int)]] (.exc A.fit) (svM A sv t q x') :=
    ⟨sv, t, q, x', 0, x.taken.length, _, rfl, o'.sv, rfl, Int.le_refl 0, by have := o'.sl; have := o'.h1; omega, .inr ⟨⟨#[c]⟩, (rest.length : Int), 0, x.taken, etk, rfl, rfl, hc, hne, by omega, rfl, rfl⟩⟩
  have cr : R_came A (svM A sv t q x') [.ref sv, .tup (asL 0 (s + 1) x.taken.length (.lst [cutP hS, keepP (rest.length : Int)]))] (.exc A.fit) (svM A sv t q x') :=
    ⟨sv, t, q, x', _, rfl, o'.sv, rfl, .inr (.inr ⟨0, s + 1, x.taken.length, _, rfl, d2, c2, Int.le_refl 0, by have := o'.sl; have := o'.h1; omega, by have := o.sn; omega, by rw [etk, List.length_append]; omega, .inr ⟨by show s + 1 = x'.serials.getD 0 0 + 1; rw [eser]; omega, .inr ⟨A.fit, rt, rfl, rfl⟩⟩⟩)⟩
  exact blk_retO hp (ev_is (ev_andT (ev_is (ev_cmp (ev_meth0Q (m := svM A sv t q x') 0 (fun _ w => w.o) stb_OB k_text T.srv.cl hr (ev_name 0) ⟨sv, t, q, x', rfl, rfl, rfl⟩) (ev_is (ev_sl (ev_name 3) (eo_some ev_int) eo_none (so_str hsx) stb_OB) (congrArg D.str etx)) (by walk_at "op") stb_OB) (congrArg D.bl (decide_eq_true rfl))) (ev_andT (ev_is (ev_cmp (ev_callO [] [] (svM A sv t q x') (svM A sv t q x') k_ref hr (eva_cons (ev_name 0) (eva_cons (ev_name 4) eva_nil)) ⟨.exc A.fit, "fit", cr, ew_fit W, rfl⟩) ev_str (by walk_at "op") stb_OB) (congrArg D.bl (decide_eq_true rfl))) (ev_one (ev_is (ev_cmp (ev_meth0Q (m := svM A sv t q x') 0 (fun _ w => w.o) stb_OB k_text T.srv.cl hr (ev_name 0) ⟨sv, t, q, x', rfl, rfl, rfl⟩) (ev_is (ev_sl (ev_name 3) (eo_some ev_int) eo_none (so_str hsx) stb_OB) (congrArg D.str etx)) (by walk_at "op") stb_OB) (congrArg D.bl (decide_eq_true rfl)))))) rfl) rfl
/-! goes_on -/
def wS : Str := Str.ofString "w"
theorem strC_took : strC tookS = true := by decide +kernel
def R_goes (A : Ad) (m : Ms) (ds : List D) (r : Res) (m' : Ms) : Prop := ∃ sv t q x k h s, m = svM A sv t q x ∧ LtOk x k h ∧ x.known.length + 1 ≤ 40 ∧ k + 1 ≤ 20 ∧ ds = [.ref sv, .int (h : Nat), .int s] ∧ s = x.serials.getD 0 0 + 1 ∧ r = .ok (.bl true) ∧ m' = svM A sv t q (takeSt x 0 (119 :: x.known) (.lst [putP wS, keepP (x.known.length : Int)]))
theorem tkN_last {x : SvS} {k h : Nat} (o : LtOk x k h) (y : List Nat) (d : D) : tkN (takeSt x 0 y d) ((k : Int) + 1) = (0, d) := by
  have e : ((k : Int) + 1 - 1).toNat = x.taken.length := by have := o.tl; omega
  unfold tkN
  rw [e]
  show (x.taken ++ [((0 : Int), d)]).getD x.taken.length (0, .lst []) = _
  rw [List.getD_eq_getElem?_getD, List.getElem?_append_right (Nat.le_refl _), Nat.sub_self]
  rfl
theorem all_map {l : List Nat} {f : Nat → D} (h : ∀ i, clean 8 (f i) = true) : clean 9 (.lst (l.map f)) = true := by
  show (l.map f).all (clean 8) = true
  rw [List.all_eq_true]
  intro d hd
  obtain ⟨i, _, rfl⟩ := List.mem_map.mp hd
  exact h i
theorem ok_goes (W : TxtW B A) : Ko B "_law_goes_on" 9 3 (R_goes A) := by
  have T := W.T
  obtain ⟨f, fd, F, m⟩ := T.d_w_goes_on
  have k_text := ok_sv_text T
  have k_many := ok_sv_many T
  have k_came := ok_sv_came T
  refine ko_of F m (F.binds fun _ _ _ _ _ _ us hl => match us, hl with | [_, _, _], _ => rfl) c_w_goes_on rfl (by decide) fun cdv A' outer s0 H Q E hr S m ds r m' hl hR hSS hp => ?_
  obtain ⟨sv, t, q, x, k, h, s, rfl, o, h4, hk, rfl, hs, rfl, rfl⟩ := hR
  have nd := c_w_goes_on.nd
  have hu := hr.un
  have hu2 : (cx B n_w_goes_on "_law_goes_on" s_w_goes_on f cdv A' outer s0 H E).A.units + 64 < cLine := by omega
  have hsx : (Sx x.known).length ≤ 1000 := by
    rw [sx_len]
    omega
  have hk3 := o.k3
  have hw : CutT wS := ⟨rfl, by decide +kernel⟩
  have c1 : changeD (.lst [putP wS, keepP (x.known.length : Int)]) = true := by
    show ((partD (putP wS) && (partD (keepP (x.known.length : Int)) && true)) && (!badW putS keepS && true)) = true
    rw [put_part hw, keep_part (by omega)]
    decide +kernel
  have d1 : okCh (.lst [putP wS, keepP (x.known.length : Int)]) = true := okCh_row (Nat.le_of_ble_eq_true rfl) (by
    rw [List.all_cons, List.all_cons, show okPart (putP wS) = true by decide +kernel, okPart_keep]
    rfl)
  have dn : doneF x.known [putP wS, keepP (x.known.length : Int)] = some (119 :: x.known) := done_put x.known wS _ rfl
  have o' := o.step (119 :: x.known) [putP wS, keepP (x.known.length : Int)] (by rw [List.all_cons, o.kn]; decide) (by rw [List.length_cons]; omega) (by rw [List.length_cons]; omega) hk
  have cm := came0 (A := A) (sv := sv) (t := t) (q := q) o d1 c1 dn o' hs
  have etk := tkN_last o (119 :: x.known) (.lst [putP wS, keepP (x.known.length : Int)])
  have ek' : Sx (takeSt x 0 (119 :: x.known) (.lst [putP wS, keepP (x.known.length : Int)])).known = wS ++ Sx x.known := by
    show Sx (119 :: x.known) = Sx [119] ++ Sx x.known
    rw [sx_app]
    rfl
  generalize hx' : takeSt x 0 (119 :: x.known) (.lst [putP wS, keepP (x.known.length : Int)]) = x' at o' cm hp ek' etk ⊢
  have etl := o.tl
  have etl' := o'.tl
  have h8 := o.h8
  have h20 := o'.t9
  refine blk_set 3 (ev_meth0Q (m := svM A sv t q x) 0 (fun _ w => w.o) stb_OB k_many T.srv.cl hr (ev_name 0) ⟨sv, t, q, x, rfl, rfl, rfl⟩) ?_ nd
  refine blk_set 4 (ev_meth0Q (m := svM A sv t q x) 0 (fun _ w => w.o) stb_OB k_text T.srv.cl hr (ev_name 0) ⟨sv, t, q, x, rfl, rfl, rfl⟩) ?_ nd
  refine blk_set 5 (ev_methO [] [] (svM A sv t q x) (svM A sv t q x') 0 k_came T.srv.cl hr (ev_name 0) (eva_cons (ev_tup (eva_cons ev_str (eva_cons ev_int (eva_cons (ev_name 2) (eva_cons (ev_name 3) (eva_cons (ev_lst (eva_cons (ev_tup (eva_cons ev_str (eva_cons ev_str eva_nil)) stb_OB) (eva_cons (ev_tup (eva_cons ev_str (eva_cons (ev_is (ev_bi (eva_cons (ev_name 4) eva_nil) (co_len_str hsx) stb_OB T.zlen boot_len) (congrArg D.int (by rw [sx_len]))) eva_nil)) stb_OB) eva_nil)) stb_OB) eva_nil))))) stb_OB) eva_nil) cm) ?_ nd
  have lT : ∀ i : Nat, tookL x' (i : Int) ((k : Int) + 1) = .tup [.str tookS, .int (i : Int), .int ((k : Int) + 1), .int 0, .lst [putP wS, keepP (x.known.length : Int)]] := fun i => by
    unfold tookL
    rw [etk]
  have row : D.lst (givenD ((List.range h).map fun (i : Nat) => tookL x' (i : Int) ((k : Int) + 1)).length (fun _ => true) (fun i => .tup [.str tookS, .int (i : Int), .int ((k : Int) + 1), .int 0])) = .lst ((List.range h).map fun (i : Nat) => .tup [.str tookS, .int (i : Int), .int ((k : Int) + 1), .int 0]) := by
    rw [givenD_all, List.length_map, List.length_range]
  have cl : clean 9 (.lst ((List.range h).map fun (i : Nat) => D.tup [.str tookS, .int (i : Int), .int ((k : Int) + 1), .int 0])) = true := all_map fun i => by
    show (strC tookS && (true && (true && (true && true)))) = true
    rw [strC_took]
    rfl
  refine blk_if (et_cmp (ev_is (ev_lc (own := [("_law_letter", 6)]) (g := gName 6) (fun _ => true) (fun (i : Nat) => .tup [.str tookS, .int (i : Int), .int ((k : Int) + 1), .int 0]) (ei_lst (ev_name 5)) stb_OB (by rw [List.length_map, List.length_range]; omega) (blkOk_by (N := n_w_goes_on) (sc := defScope s_w_goes_on) (by decide +kernel)) tgt_name (fun _ _ => trivial)
      (fun _ _ _ _ _ => pg_name nd rfl (Or.inl rfl)) (fun i H1 S' s H2 C cl fp hi w sub => ⟨ets_nil, fun _ => ?_⟩) nd) row)
    (ev_is (ev_lc (own := [("_law_k", 7)]) (g := gName 7) (fun _ => true) (fun (i : Nat) => .tup [.str tookS, .int (i : Int), .int ((k : Int) + 1), .int 0]) (ei_rng1 (n := h) (eva_cons (ev_name 1) eva_nil) (by omega) T.zrange) stb_OB (by omega) (blkOk_by (N := n_w_goes_on) (sc := defScope s_w_goes_on) (by decide +kernel)) tgt_name (fun _ _ => trivial)
      (fun _ _ _ _ _ => pg_name nd rfl (Or.inl rfl)) (fun i H1 S' s H2 C cl fp hi w sub => ⟨ets_nil, fun _ => ?_⟩) nd) (congrArg D.lst givenD_all)) (bo_neC hu2 cl) stb_OB) (fun h => Bool.noConfusion h) (fun _ => blk_on ?_)
  · have hi' : i < h := by
      rw [List.length_map, List.length_range] at hi
      exact hi
    have ei : ((List.range h).map fun (i : Nat) => tookL x' (i : Int) ((k : Int) + 1)).getD i .non = .tup [.str tookS, .int (i : Int), .int ((k : Int) + 1), .int 0, .lst [putP wS, keepP (x.known.length : Int)]] := by
      rw [List.getD_eq_getElem?_getD, List.getElem?_map, List.getElem?_range hi']
      exact lT i
    rw [ei]
    exact ev_is (ev_sl (ev_name 6) eo_none (eo_some ev_int) (so_tup (by exact (show ¬ (HT.sIx 5 0 none = 0 ∧ HT.sIx 5 5 (some 4) = 5) by decide +kernel))) (stb_inL stb_OB)) rfl
  · exact ev_tup (eva_cons ev_str (eva_cons (ev_name 7) (eva_cons (ev_is (ev_bin (ev_name 3) ev_int (by walk_at "op") (stb_inL stb_OB)) (congrArg D.int (by rw [etl]))) (eva_cons ev_int eva_nil)))) (stb_inL stb_OB)
  · have ag : R_came A (svM A sv t q x') [.ref sv, .tup (agL 0 ((0 : Nat) : Int))] (.ok (.lst ((List.range (x'.taken.length - 0)).map fun (i : Nat) => tookL x' 0 (((0 : Nat) : Int) + 1 + i)))) (svM A sv t q x') :=
      ⟨sv, t, q, x', _, rfl, o'.sv, rfl, .inl ⟨0, 0, rfl, Int.le_refl 0, by have := o'.sl; have := o'.h1; omega, by omega, rfl, rfl⟩⟩
    refine blk_set 8 (ev_methO [] [] (svM A sv t q x') (svM A sv t q x') 0 k_came T.srv.cl hr (ev_name 0) (eva_cons (ev_tup (eva_cons ev_str (eva_cons ev_int (eva_cons ev_int eva_nil))) stb_OB) eva_nil) ag) ?_ nd
    have row2 : D.lst (givenD ((List.range (x'.taken.length - 0)).map fun (i : Nat) => tookL x' 0 (((0 : Nat) : Int) + 1 + i)).length (fun _ => true) (fun i => .int (1 + (i : Int)))) = .lst ((List.range ((x.taken.length : Int) + 2 - 1).toNat).map fun (i : Nat) => .int (1 + (i : Int))) := by
      rw [givenD_all, List.length_map, List.length_range, show x'.taken.length - 0 = ((x.taken.length : Int) + 2 - 1).toNat by omega]
    have cl2 : clean 9 (.lst ((List.range ((x.taken.length : Int) + 2 - 1).toNat).map fun (i : Nat) => D.int (1 + (i : Int)))) = true := all_map fun i => rfl
    refine blk_retO hp (ev_is (ev_andT (ev_is (ev_cmp (ev_meth0Q (m := svM A sv t q x') 0 (fun _ w => w.o) stb_OB k_text T.srv.cl hr (ev_name 0) ⟨sv, t, q, x', rfl, rfl, rfl⟩) (ev_bin ev_str (ev_name 4) (bo_addS (by show 1 + (Sx x.known).length ≤ _; omega)) stb_OB) (by walk_at "op") stb_OB) (congrArg D.bl (decide_eq_true ek'))) (ev_one (ev_cmp (ev_is (ev_lc (own := [("_law_letter", 6)]) (g := gName 6) (fun _ => true) (fun (i : Nat) => .int (1 + (i : Int))) (ei_lst (ev_name 8)) stb_OB (by rw [List.length_map, List.length_range]; omega) (blkOk_by (N := n_w_goes_on) (sc := defScope s_w_goes_on) (by decide +kernel)) tgt_name (fun _ _ => trivial)
        (fun _ _ _ _ _ => pg_name nd rfl (Or.inl rfl)) (fun i H1 S' s H2 C cl fp hi w sub => ⟨ets_nil, fun _ => ?_⟩) nd) row2) (ev_listRg ev_int (ev_bin (ev_name 3) ev_int (by walk_at "op") stb_OB) stb_OB (by omega) T.zlist T.zrange) (bo_eqC hu2 cl2) stb_OB))) rfl) rfl
    have hi' : i < x'.taken.length - 0 := by
      rw [List.length_map, List.length_range] at hi
      exact hi
    have ei : ((List.range (x'.taken.length - 0)).map fun (i : Nat) => tookL x' 0 (((0 : Nat) : Int) + 1 + i)).getD i .non = .tup [.str tookS, .int 0, .int (((0 : Nat) : Int) + 1 + i), .int (tkN x' (((0 : Nat) : Int) + 1 + i)).1, (tkN x' (((0 : Nat) : Int) + 1 + i)).2] := by
      rw [List.getD_eq_getElem?_getD, List.getElem?_map, List.getElem?_range hi']
      rfl
    rw [ei]
    exact ev_is (ev_ix (ev_name 6) ev_int (by walk_at "ix")) (congrArg D.int (by omega))
/-! later -/
def R_later (A : Ad) (m : Ms) (ds : List D) (r : Res) (m' : Ms) : Prop := ∃ sv t q x k h n, m = svM A sv t q x ∧ LtOk x k h ∧ n + 2 = k ∧ ds = [.ref sv, .int (n : Nat)] ∧ r = .ok (.bl true) ∧ m' = m
theorem ok_later (W : TxtW B A) : Ko B "_law_later" 9 2 (R_later A) := by
  have T := W.T
  obtain ⟨f, fd, F, m⟩ := T.d_w_later
  have k_many := ok_sv_many T
  have k_came := ok_sv_came T
  have k_num := ok_numref W
  refine ko_of F m (F.binds fun _ _ _ _ _ _ us hl => match us, hl with | [_, _], _ => rfl) c_w_later rfl (by decide) fun cdv A' outer s0 H Q E hr S m ds r m' hl hR hSS hp => ?_
  obtain ⟨sv, t, q, x, k, h, n, rfl, o, hn, rfl, rfl, rfl⟩ := hR
  have nd := c_w_later.nd
  have hu := hr.un
  have hu2 : (cx B n_w_later "_law_later" s_w_later f cdv A' outer s0 H E).A.units + 64 < cLine := by omega
  have etl := o.tl
  have t20 := o.t9
  have hsl := o.sl
  have hh1 := o.h1
  have hsn := o.sn
  refine blk_if (et_is (et_cmp (ev_callQ (m := svM A sv t q x) k_num hr (eva_cons (ev_name 0) (eva_cons (ev_bin (ev_name 1) ev_int (by walk_at "op") stb_OB) eva_nil)) (fun _ w => w.o) stb_OB ⟨.ok (tkN x ((n : Int) + 1)).2, emp, ⟨sv, t, q, x, _, rfl, o.sv, rfl, rfl, .inr ⟨(n : Int) + 1, rfl, by omega, by omega, rfl⟩⟩, rfl, rfl⟩) ev_str (by walk_at "op") stb_OB) (show (!decide (emp = Str.ofString "")) = false by decide +kernel)) (fun h => Bool.noConfusion h) (fun _ => blk_on ?_)
  have cr : R_came A (svM A sv t q x) [.ref sv, .tup (asL 0 ((10 : Int) ^ 6) ((n + 1 : Nat) : Int) (.lst [putP qS]))] (.ok (.lst [])) (svM A sv t q x) :=
    ⟨sv, t, q, x, _, rfl, o.sv, rfl, .inr (.inr ⟨0, (10 : Int) ^ 6, n + 1, .lst [putP qS], rfl, by decide +kernel, by decide +kernel, Int.le_refl 0, by omega, by decide, by omega, .inl ⟨fun z => by
      have z2 : (1000000 : Int) = x.serials.getD 0 0 + 1 := z
      omega, rfl, rfl⟩⟩)⟩
  refine blk_if (et_cmp (ev_methO [] [] (svM A sv t q x) (svM A sv t q x) 0 k_came T.srv.cl hr (ev_name 0) (eva_cons (ev_tup (eva_cons ev_str (eva_cons ev_int (eva_cons (ev_bin ev_int ev_int (bo_pow (by decide)) stb_OB) (eva_cons (ev_bin (ev_name 1) ev_int (by walk_at "op") stb_OB) (eva_cons (ev_lst (eva_cons (ev_tup (eva_cons ev_str (eva_cons ev_str eva_nil)) stb_OB) eva_nil) stb_OB) eva_nil))))) stb_OB) eva_nil) cr) (ev_lst eva_nil stb_OB) (bo_neC hu2 rfl) stb_OB) (fun h => Bool.noConfusion h) (fun _ => blk_on ?_)
  have ag : R_came A (svM A sv t q x) [.ref sv, .tup (agL 0 ((n + 1 : Nat) : Int))] (.ok (.lst ((List.range (x.taken.length - (n + 1))).map fun (i : Nat) => tookL x 0 (((n + 1 : Nat) : Int) + 1 + i)))) (svM A sv t q x) :=
    ⟨sv, t, q, x, _, rfl, o.sv, rfl, .inl ⟨0, n + 1, rfl, Int.le_refl 0, by omega, by omega, rfl, rfl⟩⟩
  refine blk_set 2 (ev_methO [] [] (svM A sv t q x) (svM A sv t q x) 0 k_came T.srv.cl hr (ev_name 0) (eva_cons (ev_tup (eva_cons ev_str (eva_cons ev_int (eva_cons (ev_bin (ev_name 1) ev_int (by walk_at "op") stb_OB) eva_nil))) stb_OB) eva_nil) ag) ?_ nd
  have row2 : D.lst (givenD ((List.range (x.taken.length - (n + 1))).map fun (i : Nat) => tookL x 0 (((n + 1 : Nat) : Int) + 1 + i)).length (fun _ => true) (fun i => .int ((n : Int) + 2 + (i : Int)))) = .lst ((List.range ((x.taken.length : Int) + 1 - ((n : Int) + 2)).toNat).map fun (i : Nat) => .int ((n : Int) + 2 + (i : Int))) := by
    rw [givenD_all, List.length_map, List.length_range, show x.taken.length - (n + 1) = ((x.taken.length : Int) + 1 - ((n : Int) + 2)).toNat by omega]
  have cl2 : clean 9 (.lst ((List.range ((x.taken.length : Int) + 1 - ((n : Int) + 2)).toNat).map fun (i : Nat) => D.int ((n : Int) + 2 + (i : Int)))) = true := all_map fun i => rfl
  refine blk_retO hp (ev_cmp (ev_is (ev_lc (own := [("_law_letter", 3)]) (g := gName 3) (fun _ => true) (fun (i : Nat) => .int ((n : Int) + 2 + (i : Int))) (ei_lst (ev_name 2)) stb_OB (by rw [List.length_map, List.length_range]; omega) (blkOk_by (N := n_w_later) (sc := defScope s_w_later) (by decide +kernel)) tgt_name (fun _ _ => trivial)
      (fun _ _ _ _ _ => pg_name nd rfl (Or.inl rfl)) (fun i H1 S' s H2 C cl fp hi w sub => ⟨ets_nil, fun _ => ?_⟩) nd) row2) (ev_listRg (ev_bin (ev_name 1) ev_int (by walk_at "op") stb_OB) (ev_bin (ev_meth0Q (m := svM A sv t q x) 0 (fun _ w => w.o) stb_OB k_many T.srv.cl hr (ev_name 0) ⟨sv, t, q, x, rfl, rfl, rfl⟩) ev_int (by walk_at "op") stb_OB) stb_OB (by omega) T.zlist T.zrange) (bo_eqC hu2 cl2) stb_OB) rfl
  have hi' : i < x.taken.length - (n + 1) := by
    rw [List.length_map, List.length_range] at hi
    exact hi
  have ei : ((List.range (x.taken.length - (n + 1))).map fun (i : Nat) => tookL x 0 (((n + 1 : Nat) : Int) + 1 + i)).getD i .non = .tup [.str tookS, .int 0, .int (((n + 1 : Nat) : Int) + 1 + i), .int (tkN x (((n + 1 : Nat) : Int) + 1 + i)).1, (tkN x (((n + 1 : Nat) : Int) + 1 + i)).2] := by
    rw [List.getD_eq_getElem?_getD, List.getElem?_map, List.getElem?_range hi']
    rfl
  rw [ei]
  exact ev_is (ev_ix (ev_name 3) ev_int (by walk_at "ix")) (congrArg D.int (by omega))
end
end Ink
/-! Ink37 -/
/-! The law's defs: own_comes, letter_comes, others_refused. -/
namespace Ink
open PySem PySem.Spec PyProof.Rows L2
local macro_rules | `(tactic| walk_at "op") => `(tactic| first
  | exact bo_add | exact bo_sub | exact bo_mod (by decide) | exact bo_fdiv (by decide) | exact bo_lt | exact bo_le | exact bo_gt | exact bo_ge | exact bo_eqI | exact bo_neI | exact bo_eqS | exact bo_neS | exact bo_in2 | exact bo_pow (by decide) | exact bo_addL (Nat.le_of_ble_eq_true rfl) | exact bo_eq | exact bo_ne)
local macro_rules | `(tactic| walk_at "ix") => `(tactic| first | exact io_tup rfl | exact io_lst rfl | exact ix_mod 5 rfl (by decide) | exact ix_mod 6 rfl (by decide) | exact ix_mod 7 rfl (by decide) | exact ix_mod 11 rfl (by decide) | exact ix_mod 16 rfl (by decide))
section
variable {B : Bs} {A : Ad}
def startL : List Nat := [97, 98, 10, 99, 100]
/-- what stands in flight when the hand has done its own change -/
def flt (b : Bool) : D := if b then .lst row2 else .non
def zL : List Nat := 122 :: startL
def R_own (A : Ad) (m : Ms) (ds : List D) (r : Res) (m' : Ms) : Prop := ∃ hd kp own, m = hdM A hd kp ⟨own, startL, 0, 0, .non, .non⟩ .dk0 ∧ 0 ≤ own ∧ own ≤ 7 ∧ ds = [.ref hd, .int own] ∧ r = .ok (.bl true) ∧ m' = hdM A hd kp ⟨own, zL, 1, 1, .non, .non⟩ .dk0
theorem ok_own (W : TxtW B A) : Ko B "_law_own_comes" 8 2 (R_own A) := by
  have T := W.T
  obtain ⟨f, fd, F, m⟩ := T.d_w_own_comes
  have k_do := ok_hd_do T
  have k_came := ok_hd_came T
  have k_text := ok_hd_text T
  have k_seen := ok_hd_seen T
  have k_flight := ok_hd_flight T
  refine ko_of F m (F.binds fun _ _ _ _ _ _ us hl => match us, hl with | [_, _], _ => rfl) c_w_own_comes rfl (by decide) fun cdv A' outer s0 H Q E hr S m ds r m' hl hR hSS hp => ?_
  obtain ⟨hd, kp, own, rfl, h0, h7, rfl, rfl, rfl⟩ := hR
  have nd := c_w_own_comes.nd
  have hu := hr.un
  have hu2 : (cx B n_w_own_comes "_law_own_comes" s_w_own_comes f cdv A' outer s0 H E).A.units + 64 < cLine := by omega
  have rd : R_hddo A (hdM A hd kp ⟨own, startL, 0, 0, .non, .non⟩ .dk0) [.ref hd, .lst row2] (.ok (.lst [askedL ⟨own, zL, 0, 1, .lst row2, .non⟩])) (hdM A hd kp ⟨own, zL, 0, 1, .lst row2, .non⟩ .dk0) :=
    ⟨hd, kp, own, startL, 0, 0, .non, _, rfl, rfl, by decide +kernel, by decide, by decide +kernel, .inr ⟨row2, rfl, by decide +kernel, .inr ⟨zL, by decide +kernel, .inl ⟨rfl, rfl, rfl⟩⟩⟩⟩
  have rc : R_hdcame A (hdM A hd kp ⟨own, zL, 0, 1, .lst row2, .non⟩ .dk0) [.ref hd, .tup (tkLt own (0 + 1) own (.lst [keepP 5]))] (.ok (.tup [.lst [], .lst []])) (hdM A hd kp ⟨own, zL, 0 + 1, 1, .non, .non⟩ .dk0) :=
    ⟨hd, kp, own, zL, 0, 1, .lst row2, _, rfl, rfl, .inr ⟨own, [keepP 5], rfl, h0, h7, Int.le_refl 0, by decide +kernel, by decide +kernel, .inr (.inl ⟨rfl, ⟨_, rfl⟩, rfl, rfl⟩)⟩⟩
  refine blk_expr (ev_methO [] [] (hdM A hd kp ⟨own, startL, 0, 0, .non, .non⟩ .dk0) (hdM A hd kp ⟨own, zL, 0, 1, .lst row2, .non⟩ .dk0) 0 k_do T.hnd.cl hr (ev_name 0) (eva_cons (ev_lst (eva_cons (ev_tup (eva_cons ev_str (eva_cons ev_str eva_nil)) stb_OB) (eva_cons (ev_tup (eva_cons ev_str (eva_cons ev_int eva_nil)) stb_OB) eva_nil)) stb_OB) eva_nil) rd) ?_
  refine blk_if (et_cmp (ev_methO [] [] (hdM A hd kp ⟨own, zL, 0, 1, .lst row2, .non⟩ .dk0) (hdM A hd kp ⟨own, zL, 0 + 1, 1, .non, .non⟩ .dk0) 0 k_came T.hnd.cl hr (ev_name 0) (eva_cons (ev_tup (eva_cons ev_str (eva_cons (ev_name 1) (eva_cons ev_int (eva_cons (ev_name 1) (eva_cons (ev_lst (eva_cons (ev_tup (eva_cons ev_str (eva_cons ev_int eva_nil)) stb_OB) eva_nil) stb_OB) eva_nil))))) stb_OB) eva_nil) rc) (ev_tup (eva_cons (ev_lst eva_nil stb_OB) (eva_cons (ev_lst eva_nil stb_OB) eva_nil)) stb_OB) (bo_neC hu2 rfl) stb_OB) (fun h => Bool.noConfusion h) (fun _ => blk_on ?_)
  exact blk_retO hp (ev_is (ev_andT (ev_is (ev_cmp (ev_meth0Q (m := hdM A hd kp ⟨own, zL, 0 + 1, 1, .non, .non⟩ .dk0) 0 (fun _ w => w.o) stb_OB k_seen T.hnd.cl hr (ev_name 0) ⟨hd, kp, _, rfl, rfl, rfl⟩) ev_int (by walk_at "op") stb_OB) rfl) (ev_andT (ev_is (ev_cmp (ev_meth0Q (m := hdM A hd kp ⟨own, zL, 0 + 1, 1, .non, .non⟩ .dk0) 0 (fun _ w => w.o) stb_OB k_text T.hnd.cl hr (ev_name 0) ⟨hd, kp, _, rfl, rfl, rfl⟩) ev_str (by walk_at "op") stb_OB) (congrArg D.bl (decide_eq_true (show Sx zL = Str.ofString "zab\ncd" by decide +kernel)))) (ev_one (ev_cmp (ev_meth0Q (m := hdM A hd kp ⟨own, zL, 0 + 1, 1, .non, .non⟩ .dk0) 0 (fun _ w => w.o) stb_OB k_flight T.hnd.cl hr (ev_name 0) ⟨hd, kp, _, rfl, rfl, rfl, rfl⟩) ev_non bo_isN_non stb_OB)))) rfl) rfl
/-! letter_comes -/
def hTxt (b : Bool) : List Nat := if b then zL else startL
def hSer (b : Bool) : Int := if b then 1 else 0
def fltO (b : Bool) : D := if b then .lst nrow2 else .non
def R_let (A : Ad) (m : Ms) (ds : List D) (r : Res) (m' : Ms) : Prop := ∃ hd kp own b, m = hdM A hd kp ⟨own, hTxt b, 0, hSer b, flt b, .non⟩ .dk0 ∧ 0 ≤ own ∧ own ≤ 7 ∧ ds = [.ref hd, .int own] ∧ r = .ok (.bl true) ∧ m' = hdM A hd kp ⟨own, 118 :: hTxt b, 1, hSer b, fltO b, .non⟩ .dk0
theorem ok_let (W : TxtW B A) : Ko B "_law_letter_comes" 8 2 (R_let A) := by
  have T := W.T
  obtain ⟨f, fd, F, m⟩ := T.d_w_letter_comes
  have k_came := ok_hd_came T
  have k_text := ok_hd_text T
  have k_seen := ok_hd_seen T
  refine ko_of F m (F.binds fun _ _ _ _ _ _ us hl => match us, hl with | [_, _], _ => rfl) c_w_letter_comes rfl (by decide) fun cdv A' outer s0 H Q E hr S m ds r m' hl hR hSS hp => ?_
  obtain ⟨hd, kp, own, b, rfl, h0, h7, rfl, rfl, rfl⟩ := hR
  have nd := c_w_letter_comes.nd
  have hu := hr.un
  have hu2 : (cx B n_w_letter_comes "_law_letter_comes" s_w_letter_comes f cdv A' outer s0 H E).A.units + 64 < cLine := by omega
  have w0 := Int.emod_nonneg (own + 1) (show (8 : Int) ≠ 0 by decide)
  have w1 := Int.emod_lt_of_pos (own + 1) (show (0 : Int) < 8 by decide)
  have wne : (own + 1) % 8 ≠ own := by omega
  have hb : ∃ n : Int, n = (hTxt b).length ∧ Thru (.lst row1) (flt b) (.lst [putP vS, keepP n]) (fltO b) ∧ okCh (.lst [putP vS, keepP n]) = true ∧ changeD (.lst [putP vS, keepP n]) = true ∧ doneF (hTxt b) [putP vS, keepP n] = some (118 :: hTxt b) ∧ (hTxt b).all inSG = true ∧ (hTxt b).length ≤ 100 ∧ clean 9 (.lst [.lst [putP vS, keepP n]]) = true ∧ Sx (118 :: hTxt b) = vS ++ Sx (hTxt b) ∧ (Sx (hTxt b)).length ≤ 1000 := by
    cases b
    · exact ⟨5, rfl, .inl ⟨rfl, rfl, rfl⟩, by decide +kernel, by decide +kernel, by decide +kernel, by decide +kernel, by decide, by decide +kernel, by decide +kernel, by decide⟩
    · exact ⟨6, rfl, .inr ⟨rfl, rfl, rfl, rfl⟩, by decide +kernel, by decide +kernel, by decide +kernel, by decide +kernel, by decide, by decide +kernel, by decide +kernel, by decide⟩
  obtain ⟨n, hn, ht, hok, hch, hdn, hsg, hln, hcl, hsx, hs1⟩ := hb
  have rc : R_hdcame A (hdM A hd kp ⟨own, hTxt b, 0, hSer b, flt b, .non⟩ .dk0) [.ref hd, .tup (tkLt own (0 + 1) ((own + 1) % 8) (.lst row1))] (.ok (.tup [.lst [], .lst [.lst [putP vS, keepP n]]])) (hdM A hd kp ⟨own, 118 :: hTxt b, 0 + 1, hSer b, fltO b, .non⟩ .dk0) :=
    ⟨hd, kp, own, hTxt b, 0, hSer b, flt b, _, rfl, rfl, .inr ⟨(own + 1) % 8, row1, rfl, w0, by omega, Int.le_refl 0, by decide +kernel, by decide +kernel, .inr (.inr ⟨wne, _, _, _, hsg, hln, ht, hok, hch, hdn, rfl, rfl⟩)⟩⟩
  refine blk_set 2 (ev_meth0Q (m := hdM A hd kp ⟨own, hTxt b, 0, hSer b, flt b, .non⟩ .dk0) 0 (fun _ w => w.o) stb_OB k_text T.hnd.cl hr (ev_name 0) ⟨hd, kp, _, rfl, rfl, rfl⟩) ?_ nd
  refine blk_set2 3 4 (ev_methO [] [] (hdM A hd kp ⟨own, hTxt b, 0, hSer b, flt b, .non⟩ .dk0) (hdM A hd kp ⟨own, 118 :: hTxt b, 0 + 1, hSer b, fltO b, .non⟩ .dk0) 0 k_came T.hnd.cl hr (ev_name 0) (eva_cons (ev_tup (eva_cons ev_str (eva_cons (ev_name 1) (eva_cons ev_int (eva_cons (ev_bin (ev_bin (ev_name 1) ev_int (by walk_at "op") stb_OB) ev_int (by walk_at "op") stb_OB) (eva_cons (ev_lst (eva_cons (ev_tup (eva_cons ev_str (eva_cons ev_str eva_nil)) stb_OB) (eva_cons (ev_tup (eva_cons ev_str (eva_cons ev_int eva_nil)) stb_OB) eva_nil)) stb_OB) eva_nil))))) stb_OB) eva_nil) rc) ?_ nd
  refine blk_if (et_w (ew_orF (et_cmp (ev_name 3) (ev_lst eva_nil stb_OB) (bo_neC hu2 rfl) stb_OB) (ew_one_or (et_cmp (ev_name 4) (ev_is (ev_lst (eva_cons (ev_lst (eva_cons (ev_tup (eva_cons ev_str (eva_cons ev_str eva_nil)) stb_OB) (eva_cons (ev_tup (eva_cons ev_str (eva_cons (ev_is (ev_bi (eva_cons (ev_name 2) eva_nil) (co_len_str hs1) stb_OB T.zlen boot_len) (show D.int ((Sx (hTxt b)).length : Int) = .int n by rw [sx_len, hn])) eva_nil)) stb_OB) eva_nil)) stb_OB) eva_nil) stb_OB) rfl) (bo_neC hu2 hcl) stb_OB)))) (fun h => Bool.noConfusion h) (fun _ => blk_on ?_)
  exact blk_retO hp (ev_is (ev_andT (ev_is (ev_cmp (ev_meth0Q (m := hdM A hd kp ⟨own, 118 :: hTxt b, 0 + 1, hSer b, fltO b, .non⟩ .dk0) 0 (fun _ w => w.o) stb_OB k_seen T.hnd.cl hr (ev_name 0) ⟨hd, kp, _, rfl, rfl, rfl⟩) ev_int (by walk_at "op") stb_OB) rfl) (ev_one (ev_is (ev_cmp (ev_meth0Q (m := hdM A hd kp ⟨own, 118 :: hTxt b, 0 + 1, hSer b, fltO b, .non⟩ .dk0) 0 (fun _ w => w.o) stb_OB k_text T.hnd.cl hr (ev_name 0) ⟨hd, kp, _, rfl, rfl, rfl⟩) (ev_bin ev_str (ev_name 2) (bo_addS (by show 1 + (Sx (hTxt b)).length ≤ _; omega)) stb_OB) (by walk_at "op") stb_OB) (congrArg D.bl (decide_eq_true hsx))))) rfl) rfl
/-! others_refused -/
def txL : List D := [.non, .int 5, .str "\t", .str "ab\tc", .lst [.str "a"], .bl true, .tup [.str "a"]]
theorem txL_bad (c : Int) : badT (txL.getD (c % 7).toNat .non) := by
  have h1 := Int.emod_nonneg c (show (7 : Int) ≠ 0 by decide)
  have h2 := Int.emod_lt_of_pos c (show (0 : Int) < 7 by decide)
  have h3 : (c % 7).toNat = 0 ∨ (c % 7).toNat = 1 ∨ (c % 7).toNat = 2 ∨ (c % 7).toNat = 3 ∨ (c % 7).toNat = 4 ∨ (c % 7).toNat = 5 ∨ (c % 7).toNat = 6 := by omega
  rcases h3 with e | e | e | e | e | e | e <;> rw [e]
  · exact ⟨rfl, trivial, rfl⟩
  · exact ⟨rfl, trivial, rfl⟩
  · exact ⟨rfl, (by decide : (Str.ofString "\t").length ≤ 1000), by decide +kernel⟩
  · exact ⟨rfl, (by decide : (Str.ofString "ab\tc").length ≤ 1000), by decide +kernel⟩
  · exact ⟨rfl, trivial, rfl⟩
  · exact ⟨rfl, trivial, rfl⟩
  · exact ⟨rfl, trivial, rfl⟩
theorem six (c : Int) : (c % 6).toNat = 0 ∨ (c % 6).toNat = 1 ∨ (c % 6).toNat = 2 ∨ (c % 6).toNat = 3 ∨ (c % 6).toNat = 4 ∨ (c % 6).toNat = 5 := by
  have h1 := Int.emod_nonneg c (show (6 : Int) ≠ 0 by decide)
  have h2 := Int.emod_lt_of_pos c (show (0 : Int) < 6 by decide)
  omega
theorem numB_lo {i lo hi : Int} (h : i < lo) : numB (.int i) lo hi = false := by
  rw [numB_int, decide_eq_false (by omega), Bool.false_and]
theorem numB_hi {i lo hi : Int} (h : hi < i) : numB (.int i) lo hi = false := by
  rw [numB_int, decide_eq_false (show ¬ i ≤ hi by omega), Bool.and_false]
theorem nm1_bad (c : Int) : nr ([D.int (-1 - c / 7 % 9), .bl true, .non, .str "1", .int (8 + c / 7 % 9), .lst [.int 0]].getD (c % 6).toNat .non) = true ∧ numB ([D.int (-1 - c / 7 % 9), .bl true, .non, .str "1", .int (8 + c / 7 % 9), .lst [.int 0]].getD (c % 6).toNat .non) 0 7 = false := by
  have h1 := Int.emod_nonneg (c / 7) (show (9 : Int) ≠ 0 by decide)
  rcases six c with e | e | e | e | e | e <;> rw [e]
  · exact ⟨rfl, numB_lo (by omega)⟩
  · exact ⟨rfl, rfl⟩
  · exact ⟨rfl, rfl⟩
  · exact ⟨rfl, rfl⟩
  · exact ⟨rfl, numB_hi (by omega)⟩
  · exact ⟨rfl, rfl⟩
theorem nm2_bad (c : Int) : nr ([D.int 0, .int (9 + c / 7 % 5), .int (-1), .bl true, .non, .str "2"].getD (c % 6).toNat .non) = true ∧ numB ([D.int 0, .int (9 + c / 7 % 5), .int (-1), .bl true, .non, .str "2"].getD (c % 6).toNat .non) 1 8 = false := by
  have h1 := Int.emod_nonneg (c / 7) (show (5 : Int) ≠ 0 by decide)
  rcases six c with e | e | e | e | e | e <;> rw [e]
  · exact ⟨rfl, numB_lo (by omega)⟩
  · exact ⟨rfl, numB_hi (by omega)⟩
  · exact ⟨rfl, numB_lo (by omega)⟩
  · exact ⟨rfl, rfl⟩
  · exact ⟨rfl, rfl⟩
  · exact ⟨rfl, rfl⟩
theorem nm3_bad (n : Nat) (c : Int) : nr ([D.int 0, .int ((n : Int) + 1), .int (-1), .bl true, .non, .str "1"].getD (c % 6).toNat .non) = true ∧ numB ([D.int 0, .int ((n : Int) + 1), .int (-1), .bl true, .non, .str "1"].getD (c % 6).toNat .non) 1 n = false := by
  rcases six c with e | e | e | e | e | e <;> rw [e]
  · exact ⟨rfl, numB_lo (by omega)⟩
  · exact ⟨rfl, numB_hi (by omega)⟩
  · exact ⟨rfl, numB_lo (by omega)⟩
  · exact ⟨rfl, rfl⟩
  · exact ⟨rfl, rfl⟩
  · exact ⟨rfl, rfl⟩
def R_oth (A : Ad) (m : Ms) (ds : List D) (r : Res) (m' : Ms) : Prop := ∃ sv t q x hd kp own held se fl c, m = svM A sv t q x ++ hdM A hd kp ⟨own, held, 0, se, fl, .non⟩ .dk0 ∧ SvOk x ∧ held.all inSG = true ∧ held.length ≤ 100 ∧ ds = [.ref sv, .ref hd, .int c] ∧ r = .ok (.bl true) ∧ m' = m
theorem keep1_ok {n : Int} (h : 0 < n) : okCh (.lst [keepP n]) = true ∧ changeD (.lst [keepP n]) = true := by
  refine ⟨rfl, ?_⟩
  show ((partD (keepP n) && true) && true) = true
  rw [keep_part h]
  rfl
theorem ok_oth (W : TxtW B A) : Ko B "_law_others_refused" 7 3 (R_oth A) := by
  have T := W.T
  obtain ⟨f, fd, F, m⟩ := T.d_w_others_refused
  have k_w_made_refused := ok_made W
  have k_w_first_refused := ok_first W
  have k_num := ok_numref W
  have k_many := ok_sv_many T
  have k_text := ok_hd_text T
  have k_do := ok_doref W
  have k_noch := ok_noch T
  refine ko_of F m (F.binds fun _ _ _ _ _ _ us hl => match us, hl with | [_, _, _], _ => rfl) c_w_others_refused rfl (by decide) fun cdv A' outer s0 H Q E hr S m ds r m' hl hR hSS hp => ?_
  obtain ⟨sv, t, q, x, hd, kp, own, held, se, fl, c, rfl, hx, hsg, hln, rfl, rfl, rfl⟩ := hR
  have nd := c_w_others_refused.nd
  have hu := hr.un
  have hu2 : (cx B n_w_others_refused "_law_others_refused" s_w_others_refused f cdv A' outer s0 H E).A.units + 64 < cLine := by omega
  have hsx : (Sx held).length ≤ 1000 := by
    rw [sx_len]
    omega
  have et : ∀ z : Str, (!decide (z = z)) = false := fun z => by rw [decide_eq_true rfl]; rfl
  refine blk_set 3 (ev_ix (ev_lst (eva_cons ev_non (eva_cons ev_int (eva_cons ev_str (eva_cons ev_str (eva_cons (ev_lst (eva_cons ev_str eva_nil) stb_OB) (eva_cons ev_bl (eva_cons (ev_tup (eva_cons ev_str eva_nil) stb_OB) eva_nil))))))) stb_OB) (ev_bin (ev_name 2) ev_int (by walk_at "op") stb_OB) (by walk_at "ix")) ?_ nd
  refine blk_set 4 (ev_ix (ev_lst (eva_cons (ev_bin (ev_neg ev_int) (ev_bin (ev_bin (ev_name 2) ev_int (by walk_at "op") stb_OB) ev_int (by walk_at "op") stb_OB) (by walk_at "op") stb_OB) (eva_cons ev_bl (eva_cons ev_non (eva_cons ev_str (eva_cons (ev_bin ev_int (ev_bin (ev_bin (ev_name 2) ev_int (by walk_at "op") stb_OB) ev_int (by walk_at "op") stb_OB) (by walk_at "op") stb_OB) (eva_cons (ev_lst (eva_cons ev_int eva_nil) stb_OB) eva_nil)))))) stb_OB) (ev_bin (ev_name 2) ev_int (by walk_at "op") stb_OB) (by walk_at "ix")) ?_ nd
  have b1 := txL_bad c
  have b2 := nm1_bad c
  have b3 := nm2_bad c
  have b4 := nm3_bad x.taken.length c
  have b5 := noCh_bad c
  refine blk_if (et_w (ew_orF (et_is (et_cmp (ev_call k_w_made_refused hr (eva_cons ev_int (eva_cons (ev_name 3) eva_nil)) stb_OB ⟨0, _, rfl, .inl ⟨rfl, b1, rfl⟩⟩) ev_str (by walk_at "op") stb_OB) (et "text")) (ew_one_or (et_is (et_cmp (ev_call k_w_made_refused hr (eva_cons ev_int (eva_cons (ev_name 3) eva_nil)) stb_OB ⟨3, _, rfl, .inr (.inr (.inr ⟨rfl, b1, rfl⟩))⟩) ev_str (by walk_at "op") stb_OB) (et "text"))))) (fun h => Bool.noConfusion h) (fun _ => blk_on ?_)
  refine blk_if (et_cmp (ev_lst (eva_cons (ev_call k_w_first_refused hr (eva_cons ev_int (eva_cons (ev_name 3) eva_nil)) stb_OB ⟨0, _, rfl, b1, .inl ⟨rfl, rfl⟩⟩) (eva_cons (ev_call k_w_first_refused hr (eva_cons ev_int (eva_cons (ev_name 3) eva_nil)) stb_OB ⟨1, _, rfl, b1, .inr ⟨rfl, rfl⟩⟩) eva_nil)) stb_OB) (ev_lst (eva_cons ev_str (eva_cons ev_str eva_nil)) stb_OB) (bo_neC hu2 (by decide +kernel)) stb_OB) (fun h => Bool.noConfusion h) (fun _ => blk_on ?_)
  refine blk_if (et_is (et_cmp (ev_call k_w_made_refused hr (eva_cons ev_int (eva_cons (ev_ix (ev_lst (eva_cons ev_int (eva_cons (ev_bin ev_int (ev_bin (ev_bin (ev_name 2) ev_int (by walk_at "op") stb_OB) ev_int (by walk_at "op") stb_OB) (by walk_at "op") stb_OB) (eva_cons (ev_neg ev_int) (eva_cons ev_bl (eva_cons ev_non (eva_cons ev_str eva_nil)))))) stb_OB) (ev_bin (ev_name 2) ev_int (by walk_at "op") stb_OB) (by walk_at "ix")) eva_nil)) stb_OB ⟨1, _, rfl, .inr (.inl ⟨rfl, b3.1, b3.2, rfl⟩)⟩) ev_str (by walk_at "op") stb_OB) (et "hand")) (fun h => Bool.noConfusion h) (fun _ => blk_on ?_)
  refine blk_if (et_is (et_cmp (ev_call k_w_made_refused hr (eva_cons ev_int (eva_cons (ev_name 4) eva_nil)) stb_OB ⟨2, _, rfl, .inr (.inr (.inl ⟨rfl, b2.1, b2.2, rfl⟩))⟩) ev_str (by walk_at "op") stb_OB) (et "hand")) (fun h => Bool.noConfusion h) (fun _ => blk_on ?_)
  refine blk_if (et_is (et_cmp (ev_callQ (m := svM A sv t q x) k_num hr (eva_cons (ev_name 0) (eva_cons (ev_ix (ev_lst (eva_cons ev_int (eva_cons (ev_bin (ev_meth0Q (m := svM A sv t q x) 0 (fun _ w => w.o.left) stb_OB k_many T.srv.cl hr (ev_name 0) ⟨sv, t, q, x, rfl, rfl, rfl⟩) ev_int (by walk_at "op") stb_OB) (eva_cons (ev_neg ev_int) (eva_cons ev_bl (eva_cons ev_non (eva_cons ev_str eva_nil)))))) stb_OB) (ev_bin (ev_name 2) ev_int (by walk_at "op") stb_OB) (by walk_at "ix")) eva_nil)) (fun _ w => w.o.left) stb_OB ⟨.exc A.gone, "gone", ⟨sv, t, q, x, _, rfl, hx, rfl, b4.1, .inl ⟨b4.2, rfl⟩⟩, ew_gone W, rfl⟩) ev_str (by walk_at "op") stb_OB) (et "gone")) (fun h => Bool.noConfusion h) (fun _ => blk_on ?_)
  refine blk_if (et_is (et_cmp (ev_callO (svM A sv t q x) [] (hdM A hd kp ⟨own, held, 0, se, fl, .non⟩ .dk0) (hdM A hd kp ⟨own, held, 0, se, fl, .non⟩ .dk0) k_do hr (eva_cons (ev_name 1) (eva_cons (ev_call k_noch hr (eva_cons (ev_name 2) eva_nil) stb_OB ⟨_, rfl, rfl⟩) eva_nil)) ⟨.exc A.change, "change", ⟨hd, kp, own, held, 0, se, fl, _, rfl, rfl, hsg, hln, b5.1, .inl ⟨b5.2, rfl, rfl⟩⟩, ew_change W, rfl⟩) ev_str (by walk_at "op") stb_OB) (et "change")) (fun h => Bool.noConfusion h) (fun _ => blk_on ?_)
  have m3 := Int.emod_nonneg c (show (3 : Int) ≠ 0 by decide)
  have kk := keep1_ok (show 0 < (held.length : Int) + 1 + c % 3 by omega)
  have kd := done_far held ((held.length : Int) + 1 + c % 3) (by omega)
  exact blk_retO hp (ev_is (ev_cmp (ev_callO (svM A sv t q x) [] (hdM A hd kp ⟨own, held, 0, se, fl, .non⟩ .dk0) (hdM A hd kp ⟨own, held, 0, se, fl, .non⟩ .dk0) k_do hr (eva_cons (ev_name 1) (eva_cons (ev_lst (eva_cons (ev_tup (eva_cons ev_str (eva_cons (ev_bin (ev_bin (ev_is (ev_bi (eva_cons (ev_meth0Q (m := hdM A hd kp ⟨own, held, 0, se, fl, .non⟩ .dk0) 0 (fun _ w => w.o.right) stb_OB k_text T.hnd.cl hr (ev_name 1) ⟨hd, kp, _, rfl, rfl, rfl⟩) eva_nil) (co_len_str hsx) stb_OB T.zlen boot_len) (show D.int ((Sx held).length : Int) = .int (held.length : Int) by rw [sx_len])) ev_int (by walk_at "op") stb_OB) (ev_bin (ev_name 2) ev_int (by walk_at "op") stb_OB) (by walk_at "op") stb_OB) eva_nil)) stb_OB) eva_nil) stb_OB) eva_nil)) ⟨.exc A.fit, "fit", ⟨hd, kp, own, held, 0, se, fl, _, rfl, rfl, hsg, hln, kk.1, .inr ⟨_, rfl, kk.2, .inl ⟨kd, rfl, rfl⟩⟩⟩, ew_fit W, rfl⟩) ev_str (by walk_at "op") stb_OB) (congrArg D.bl (decide_eq_true rfl))) rfl
end
end Ink
/-! Ink38 -/
/-! The law. -/
namespace Ink
open PySem PySem.Spec PyProof.Rows L2
local macro_rules | `(tactic| walk_at "op") => `(tactic| first
  | exact bo_add | exact bo_sub | exact bo_mod (by decide) | exact bo_fdiv (by decide) | exact bo_lt | exact bo_le | exact bo_gt | exact bo_ge | exact bo_eqI | exact bo_neI | exact bo_eqS | exact bo_neS | exact bo_in2 | exact bo_pow (by decide) | exact bo_addL (Nat.le_of_ble_eq_true rfl) | exact bo_eq | exact bo_ne)
local macro_rules | `(tactic| walk_at "ix") => `(tactic| first | exact io_tup rfl | exact io_lst rfl)
/-! ### the letters that are none are refused -/
theorem okCh_good (n : Int) : okCh (goodR n) = true := rfl
theorem far_bad (h : Nat) (c : Int) : nr ((noFar h c).getD (c / 16 % 6).toNat .non) = true ∧ numB ((noFar h c).getD (c / 16 % 6).toNat .non) 0 ((h : Int) - 1) = false ∨ h > 8 := by
  by_cases h8 : h > 8
  · exact .inr h8
  refine .inl ?_
  have h1 := Int.emod_nonneg (c / 64) (show (3 : Int) ≠ 0 by decide)
  rcases six (c / 16) with e | e | e | e | e | e <;> rw [e]
  · exact ⟨rfl, numB_hi (by omega)⟩
  · exact ⟨rfl, numB_lo (by omega)⟩
  · exact ⟨rfl, rfl⟩
  · exact ⟨rfl, rfl⟩
  · exact ⟨rfl, rfl⟩
  · exact ⟨rfl, numB_hi (by show (h : Int) - 1 < 10 ^ 9; omega)⟩
theorem five (c : Int) : (c % 5).toNat = 0 ∨ (c % 5).toNat = 1 ∨ (c % 5).toNat = 2 ∨ (c % 5).toNat = 3 ∨ (c % 5).toNat = 4 := by
  have h1 := Int.emod_nonneg c (show (5 : Int) ≠ 0 by decide)
  have h2 := Int.emod_lt_of_pos c (show (0 : Int) < 5 by decide)
  omega
/-- no serial -/
theorem ser_bad (c : Int) : nr ([D.int 0, .int (-1), .bl true, .non, .str "1"].getD (c / 16 % 5).toNat .non) = true ∧ (wholeD ([D.int 0, .int (-1), .bl true, .non, .str "1"].getD (c / 16 % 5).toNat .non) && posB ([D.int 0, .int (-1), .bl true, .non, .str "1"].getD (c / 16 % 5).toNat .non)) = false := by
  rcases five (c / 16) with e | e | e | e | e <;> rw [e] <;> exact ⟨rfl, rfl⟩
theorem at_bad (n : Nat) (k : Int) (hk : 0 < k) (c : Int) : nr ([D.int ((n : Int) + k), .int (-1), .bl true, .non, .str "0"].getD (c / 16 % 5).toNat .non) = true ∧ numB ([D.int ((n : Int) + k), .int (-1), .bl true, .non, .str "0"].getD (c / 16 % 5).toNat .non) 0 n = false := by
  rcases five (c / 16) with e | e | e | e | e <;> rw [e]
  · exact ⟨rfl, numB_hi (by omega)⟩
  · exact ⟨rfl, numB_lo (by omega)⟩
  · exact ⟨rfl, rfl⟩
  · exact ⟨rfl, rfl⟩
  · exact ⟨rfl, rfl⟩
theorem sixteen (c : Int) : (c % 16).toNat < 16 := by
  have h1 := Int.emod_nonneg c (show (16 : Int) ≠ 0 by decide)
  have h2 := Int.emod_lt_of_pos c (show (0 : Int) < 16 by decide)
  omega
theorem ok5 {a s k ch : D} {w : Str} (h1 : nr a = true) (h2 : nr s = true) (h3 : nr k = true) (h4 : okCh ch = true) : okLt (.tup [.str w, a, s, k, ch]) = true := by
  show (true && (true && (nr a && (nr s && (nr k && okCh ch))))) = true
  rw [h1, h2, h3, h4]
  rfl
theorem ok3 {a k : D} {w : Str} (h1 : nr a = true) (h3 : nr k = true) : okLt (.tup [.str w, a, k]) = true := by
  show ((true && (nr a && nr k)) && true) = true
  rw [h1, h3]
  rfl
theorem bad5 {x : SvS} {a s k ch : D} (h : (numB a 0 ((x.serials.length : Int) - 1) && (wholeD s && (posB s && (numB k 0 x.taken.length && changeD ch)))) = false) : goodS x (.tup [.str askS, a, s, k, ch]) = false := by
  rw [good5, askD_eq, h, Bool.and_false]
theorem bad3 {x : SvS} {a k : D} (h : (numB a 0 ((x.serials.length : Int) - 1) && numB k 0 x.taken.length) = false) : goodS x (.tup [.str againS, a, k]) = false := by
  rw [good3, againD_eq, h, Bool.and_false]
theorem badw5 {x : SvS} {a s k ch : D} {w : Str} (h : decide (w = askS) = false) : goodS x (.tup [.str w, a, s, k, ch]) = false := by
  rw [good5, askD_eq, h, Bool.false_and]
theorem badTw {a n w ch : D} {z : Str} {own : Int} (h : decide (z = tookS) = false) : tookD (.tup [.str z, a, n, w, ch]) own = false := by
  rw [tookD_eq, h, Bool.false_and]
theorem noAsk_bad {x : SvS} {h : Nat} (hs : x.serials.length = h) (h8 : h ≤ 8) (c : Int) : okLt (noAsk h x.taken.length x.known.length c) = true ∧ goodS x (noAsk h x.taken.length x.known.length c) = false := by
  obtain ⟨f1, f2⟩ := (far_bad h c).resolve_right (by omega)
  obtain ⟨s1, s2⟩ := ser_bad c
  obtain ⟨a1, a2⟩ := at_bad x.taken.length 1 (by decide) c
  have m9 := Int.emod_nonneg (c / 64) (show (9 : Int) ≠ 0 by decide)
  obtain ⟨b1, b2⟩ := at_bad x.taken.length (1 + c / 64 % 9) (by omega) c
  obtain ⟨n1, n2⟩ := noCh_bad (c / 16)
  have hk := sixteen c
  rw [← Int.add_assoc] at b1 b2
  unfold noAsk noAskL
  generalize (c % 16).toNat = k at hk
  match k, hk with
  | 0, _ => exact ⟨ok5 f1 rfl rfl (okCh_good _), bad5 (by rw [hs, f2]; rfl)⟩
  | 1, _ => exact ⟨ok3 f1 rfl, bad3 (by rw [hs, f2]; rfl)⟩
  | 2, _ => exact ⟨ok5 rfl s1 rfl (okCh_good _), bad5 (by rw [← Bool.and_assoc (wholeD _), s2]; simp)⟩
  | 3, _ => exact ⟨ok5 rfl rfl a1 (okCh_good _), bad5 (by rw [a2]; simp)⟩
  | 4, _ => exact ⟨ok3 rfl b1, bad3 (by rw [b2]; simp)⟩
  | 5, _ => exact ⟨ok5 rfl rfl rfl n1, bad5 (by rw [n2]; simp)⟩
  | 6, _ => exact ⟨rfl, rfl⟩
  | 7, _ => exact ⟨rfl, rfl⟩
  | 8, _ => exact ⟨rfl, rfl⟩
  | 9, _ => exact ⟨rfl, rfl⟩
  | 10, _ => exact ⟨ok5 rfl rfl rfl (okCh_good _), badw5 (by decide +kernel)⟩
  | 11, _ => exact ⟨rfl, rfl⟩
  | 12, _ => exact ⟨rfl, rfl⟩
  | 13, _ => exact ⟨rfl, rfl⟩
  | 14, _ => exact ⟨rfl, rfl⟩
  | 15, _ => exact ⟨ok5 rfl rfl rfl (okCh_good _), badw5 (by decide +kernel)⟩
  | k + 16, h => exact absurd h (by omega)
theorem okT5 {a s k ch : D} {w : Str} (h1 : nr a = true) (h2 : nr s = true) (h3 : nr k = true) (h4 : okCh ch = true) : okTk (.tup [.str w, a, s, k, ch]) = true := by
  show (true && (nr a && (nr s && (nr k && okCh ch)))) = true
  rw [h1, h2, h3, h4]
  rfl
theorem badT5 {own : Int} {a n w ch : D} (h : (wholeD a && (tookD.eqI a own && (wholeD n && (posB n && (numB w 0 7 && changeD ch))))) = false) : tookD (.tup [.str tookS, a, n, w, ch]) own = false := by
  rw [tookD_eq, h, Bool.and_false]
theorem noTook_bad {own n : Int} (h0 : 0 ≤ own) (h7 : own ≤ 7) (c : Int) : okTk (noTook own n c) = true ∧ tookD (noTook own n c) own = false := by
  have hf : nr ([D.int (own + 1), .int (own - 1), .bl true, .non, .str "0", .int (10 ^ 9)].getD (c / 16 % 6).toNat .non) = true ∧ (wholeD ([D.int (own + 1), .int (own - 1), .bl true, .non, .str "0", .int (10 ^ 9)].getD (c / 16 % 6).toNat .non) && tookD.eqI ([D.int (own + 1), .int (own - 1), .bl true, .non, .str "0", .int (10 ^ 9)].getD (c / 16 % 6).toNat .non) own) = false := by
    rcases six (c / 16) with e | e | e | e | e | e <;> rw [e]
    · exact ⟨rfl, decide_eq_false (by omega)⟩
    · exact ⟨rfl, decide_eq_false (by omega)⟩
    · exact ⟨rfl, rfl⟩
    · exact ⟨rfl, rfl⟩
    · exact ⟨rfl, rfl⟩
    · exact ⟨rfl, decide_eq_false (show ¬ (10 : Int) ^ 9 = own by omega)⟩
  have m9 := Int.emod_nonneg (c / 64) (show (9 : Int) ≠ 0 by decide)
  have hn : nr ([D.int 0, .int (-1 - c / 64 % 9), .bl true, .non, .str "1"].getD (c / 16 % 5).toNat .non) = true ∧ (wholeD ([D.int 0, .int (-1 - c / 64 % 9), .bl true, .non, .str "1"].getD (c / 16 % 5).toNat .non) && posB ([D.int 0, .int (-1 - c / 64 % 9), .bl true, .non, .str "1"].getD (c / 16 % 5).toNat .non)) = false := by
    rcases five (c / 16) with e | e | e | e | e <;> rw [e]
    · exact ⟨rfl, rfl⟩
    · exact ⟨rfl, decide_eq_false (show ¬ 0 < -1 - c / 64 % 9 by omega)⟩
    · exact ⟨rfl, rfl⟩
    · exact ⟨rfl, rfl⟩
    · exact ⟨rfl, rfl⟩
  have hw : nr ([D.int (-1), .int 8, .bl true, .non, .str "0"].getD (c / 16 % 5).toNat .non) = true ∧ numB ([D.int (-1), .int 8, .bl true, .non, .str "0"].getD (c / 16 % 5).toNat .non) 0 7 = false := by
    rcases five (c / 16) with e | e | e | e | e <;> rw [e] <;> exact ⟨rfl, rfl⟩
  obtain ⟨n1, n2⟩ := noCh_bad (c / 16)
  have hk := sixteen c
  unfold noTook noTookL
  generalize (c % 16).toNat = k at hk
  match k, hk with
  | 0, _ => exact ⟨okT5 hf.1 rfl rfl (okCh_good _), badT5 (by rw [← Bool.and_assoc (wholeD _), hf.2]; rfl)⟩
  | 1, _ => exact ⟨okT5 rfl hn.1 rfl (okCh_good _), badT5 (by rw [← Bool.and_assoc (wholeD (List.getD _ _ _)), hn.2]; simp)⟩
  | 2, _ => exact ⟨okT5 rfl rfl hw.1 (okCh_good _), badT5 (by rw [hw.2]; simp)⟩
  | 3, _ => exact ⟨okT5 rfl rfl rfl n1, badT5 (by rw [n2]; simp)⟩
  | 4, _ => exact ⟨rfl, rfl⟩
  | 5, _ => exact ⟨rfl, rfl⟩
  | 6, _ => exact ⟨rfl, rfl⟩
  | 7, _ => exact ⟨rfl, rfl⟩
  | 8, _ => exact ⟨okT5 rfl rfl rfl (okCh_good _), badTw (by decide +kernel)⟩
  | 9, _ => exact ⟨okT5 rfl rfl rfl (okCh_good _), badTw (by decide +kernel)⟩
  | 10, _ => exact ⟨rfl, rfl⟩
  | 11, _ => exact ⟨rfl, rfl⟩
  | 12, _ => exact ⟨rfl, rfl⟩
  | 13, _ => exact ⟨rfl, rfl⟩
  | 14, _ => exact ⟨rfl, rfl⟩
  | 15, _ => exact ⟨rfl, rfl⟩
  | k + 16, h => exact absurd h (by omega)
end Ink
/-! Ink39 -/
/-! The law walked. -/
namespace Ink
open PySem PySem.Spec PyProof.Rows L2
local macro_rules | `(tactic| walk_at "op") => `(tactic| first
  | exact bo_add | exact bo_sub | exact bo_mod (by decide) | exact bo_fdiv (by decide) | exact bo_lt | exact bo_le | exact bo_gt | exact bo_ge | exact bo_eqI | exact bo_neI | exact bo_eqS | exact bo_neS | exact bo_in2 | exact bo_pow (by decide) | exact bo_addL (Nat.le_of_ble_eq_true rfl) | exact bo_eq | exact bo_ne)
local macro_rules | `(tactic| walk_at "ix") => `(tactic| first | exact io_tup rfl | exact io_lst rfl)
/-! ### the script, a list that is known by its items -/
section
variable {X : Cx} {S : Set'} {G : Gm} {W W1 W2 W3 : As} {e b : Expr} {es : List Expr} {pos p p2 : Pos} {a : Addr} {ns : List Int} {x : Str} {k j : Nat}
theorem ev_lenS {pf : Pos} (hW : ∀ H, W1 H → SqL X.K H a (ns.map V.int)) (ha : Ev X S e G W (.ref a) W1) (hb : X.mg "len" = none) (hg : Gl X "len" := by rfl)
    (hs : starEach [e] X.env = (false, eval e X.env) :: starEach [] X.env := by rfl) (hpl : (backTo pos (starEach [] X.env)).any (·.1) = false := by rfl) : Ev X S (.Call (.Name "len" pf) [e] [] pos) G W (.int (ns.length : Int)) W1 := fun σ H ty so w Q q => by
  refine ⟨_, pe_callB call_len_seq hg hb boot_len (pa_cons we_pe pa_nil hs) (by decide) (by decide) hs hpl, ha σ H ty so w _ fun x H1 k1 w1 p1 => ?_⟩
  cases (show x = .ref a from p1)
  exact ⟨a, _, rfl, .inl (hW H1 w1), q _ H1 k1 w1 (by rw [List.length_map]; rfl)⟩
theorem ev_ixS {z : Int} {v : Int} (hW : ∀ H, W2 H → SqL X.K H a (ns.map V.int)) (ha : Ev X S e G W (.ref a) W1) (hb : Ev X S b G W1 (.int z) W2) (hd : atI (ns.map V.int) z = some (.int v)) (hs : PlainIx b := by exact fun _ _ => rfl) : Ev X S (.Subscript e b pos) G W (.int v) W2 := fun σ H ty so w Q q =>
  ⟨_, pe_ix ix_list we_pe we_pe hs, ha σ H ty so w _ fun x H1 k1 w1 p1 => hb σ H1 (ty.kept k1) (so.kept k1) w1 _ fun y H2 k2 w2 p2 => by
    cases (show x = .ref a from p1)
    cases (show y = .int z from p2)
    exact ⟨a, _, z, _, rfl, rfl, hW H2 w2, hd, q _ H2 (k1.trans k2) w2 rfl⟩⟩
theorem ints_out (S : Set') (H : Hp) : ∀ l : List Int, DatL S H (l.map V.int) (l.map D.int)
  | [] => rfl
  | x :: l => ⟨_, _, rfl, rfl, ints_out S H l⟩
def cutI (ns : List Int) (oi oj : Option Int) : List Int := (ns.drop (HT.sIx ns.length 0 oi)).take (HT.sIx ns.length ns.length oj - HT.sIx ns.length 0 oi)
theorem ev_slS {lo hi : Option Expr} {oi oj : Option Int} (hW : ∀ H, W3 H → SqL X.K H a (ns.map V.int)) (ha : Ev X S e G W (.ref a) W1) (hl : EvO X S lo G W1 oi W2) (hu : EvO X S hi G W2 oj W3) (hs : Stb W3) : Ev X S (.Subscript e (.Slice lo hi none p2) pos) G W (.lst ((cutI ns oi oj).map D.int)) W3 := fun σ H ty so w Q q => by
  refine ⟨_, ⟨fun pins s σ H Q I z => (pe_slice (lo := lo) (hi := hi) (p2 := p2) (pos := pos) sl_list (we_pe (e := e)) (tl := fun σ H Q => ∃ t, PO X lo t ∧ t σ H Q) (th := fun σ H Q => ∃ t, PO X hi t ∧ t σ H Q) ⟨fun pins s σ H Q I ⟨t, c, z⟩ => c.run pins s σ H Q I z⟩ ⟨fun pins s σ H Q I ⟨t, c, z⟩ => c.run pins s σ H Q I z⟩).run pins s σ H Q I z⟩, ?_⟩
  refine ha σ H ty so w _ fun x H1 k1 w1 p1 => hl σ H1 (ty.kept k1) (so.kept k1) w1 _ fun H2 k2 w2 => hu σ H2 (ty.kept (k1.trans k2)) (so.kept (k1.trans k2)) w2 _ fun H3 k3 w3 => ?_
  cases (show x = .ref a from p1)
  refine ⟨a, _, rfl, hW H3 w3, fun n hn => q _ _ (((k1.trans k2).trans k3).trans (Same.kept (Same.new hn))) (hs _ _ w3 (Same.new hn)) (dat_new_lst (so.kept ((k1.trans k2).trans k3)) hn ?_)⟩
  have e : cutV (ns.map V.int) oi oj = (cutI ns oi oj).map V.int := by
    unfold cutV cutI
    rw [List.length_map, List.map_take, List.map_drop]
  rw [e]
  exact ints_out _ _ _
end
section
variable {B : Bs} {A : Ad}
def spC (K : PySem.W.Frag) : Sp := fun vs H Q E => ∃ (a : Addr) (k : Nat) (ns : List Int), vs = [.ref a, .int (k : Int)] ∧ SqL K H a (ns.map V.int) ∧ ∀ H', Same H H' → Q (.int (ns.getD k 0)) H'
theorem sql_same {K : PySem.W.Frag} {H H' : Hp} {a : Addr} {xs : List V} (h : SqL K H a xs) (e : Same H H') : SqL K H' a xs := by
  rcases h with h | h
  · rcases h with h | ⟨o, h⟩
    · exact .inl (.inl (e _ _ h))
    · exact .inl (.inr ⟨o, e _ _ h⟩)
  · exact .inr h
theorem ok_cellS (T : Txt B A) : Kd B "_law_cell_at" 1 (spC B.K) := by
  obtain ⟨f, fd, F, m⟩ := T.d_w_cell_at
  refine kd_of F m (F.binds fun _ _ _ _ _ _ us hl => match us, hl with | [_, _], _ => rfl) c_w_cell_at (fun vs H Q E h => ?_) fun cdv A' outer s H vs Q E hr h => ?_
  · obtain ⟨a, k, ns, rfl, _⟩ := h
    rfl
  · obtain ⟨a, k, l, rfl, hS, hQ⟩ := h
    have t0 : Ty (fun _ => False) H (L2.start n_w_cell_at [.ref a, .int (k : Int)]) [some (.ref a), some (.int (k : Int))] := ty_start (N := n_w_cell_at) (ds := [.ref a, .int (k : Int)]) ⟨_, _, rfl, rfl, _, _, rfl, rfl, rfl⟩ (Nat.le_of_ble_eq_true rfl)
    have st : Stb (Same H) := stb_same
    refine (?_ : Blk (cx B n_w_cell_at "_law_cell_at" s_w_cell_at f cdv A' outer s H E) (fun _ => False) (defBody s_w_cell_at) { nx := fun _ H' => Q .non H', rt := Q } [some (.ref a), some (.int (k : Int))] (Same H)) _ H t0 (fun b z => z.elim) (Same.refl H)
    by_cases c : k < l.length
    · refine blk_if (et_is (et_cmp (ev_name 1) (ev_lenS (fun _ w => sql_same hS w) (ev_name 0) T.zlen) (by walk_at "op") st) (decide_eq_true (by omega))) (fun _ => ?_) (fun h => Bool.noConfusion h)
      refine blk_ret (ev_ixS (v := l.getD k 0) (fun _ w => sql_same hS w) (ev_name 0) (ev_name 1) (atI_of (n := k) rfl (by rw [List.getElem?_map, getD_of 0 c]; rfl))) fun v H' so w q => ?_
      cases (show v = .int (l.getD k 0) from q)
      exact hQ H' w
    · refine blk_if (et_is (et_cmp (ev_name 1) (ev_lenS (fun _ w => sql_same hS w) (ev_name 0) T.zlen) (by walk_at "op") st) (decide_eq_false (by omega))) (fun h => Bool.noConfusion h) (fun _ => blk_on ?_)
      refine blk_ret ev_int fun v H' so w q => ?_
      cases (show v = .int 0 from q)
      have e : l.getD k 0 = 0 := by
        rw [List.getD_eq_getElem?_getD, List.getElem?_eq_none (by omega)]
        rfl
      rw [e] at hQ
      exact hQ H' w
end
section
variable {X : Cx} {S : Set'} {G : Gm} {W W1 : As} {e : Expr} {pos pk : Pos} {a : Addr} {ns : List Int} {j i : Nat} {k : Nat}
theorem ev_cellS {pf : Pos} (h : Kd (bsOf X) "_law_cell_at" 1 (spC X.K)) (hr : Room j X.A) (ha : EvA X S [e, .Constant (.int (k : Int)) i pk] G W [.ref a, .int (k : Int)] W1) (hW : ∀ H, W1 H → SqL X.K H a (ns.map V.int)) (hs : Stb W1) (hj : 1 ≤ j := by decide) (hg : Gl X "_law_cell_at" := by rfl)
    (he : starEach [e, .Constant (.int (k : Int)) i pk] X.env = (false, eval e X.env) :: starEach [.Constant (.int (k : Int)) i pk] X.env := by rfl) (hpl : (backTo pos (starEach [.Constant (.int (k : Int)) i pk] X.env)).any (·.1) = false := by rfl) :
    Ev X S (.Call (.Name "_law_cell_at" pf) [e, .Constant (.int (k : Int)) i pk] [] pos) G W (.int (ns.getD k 0)) W1 := fun σ H ty so w Q q => by
  obtain ⟨f, fd, ps, FF, hm, hk, hb⟩ := h
  refine ⟨_, pe_callS FF (hr.mono hj) hg hm hk hb (fun σ => pass_f) wa_pa (by decide) he hpl, ha σ H ty so w _ fun vs H1 k1 w1 p1 => ?_⟩
  obtain ⟨u, v, rfl, pu, pv⟩ := two_dat p1
  cases (show u = .ref a from pu)
  cases (show v = .int (k : Int) from pv)
  exact ⟨a, k, ns, rfl, hW H1 w1, fun H2 e2 => q _ H2 (k1.trans (Same.kept e2)) (hs _ _ w1 e2) rfl⟩
end
end Ink
/-! Ink40 -/
/-! The law walked. -/
namespace Ink
open PySem PySem.Spec PyProof.Rows L2
local macro_rules | `(tactic| walk_at "op") => `(tactic| first
  | exact bo_add | exact bo_sub | exact bo_mod (by decide) | exact bo_fdiv (by decide) | exact bo_lt | exact bo_le | exact bo_gt | exact bo_ge | exact bo_eqI | exact bo_neI | exact bo_eqS | exact bo_neS | exact bo_in2 | exact bo_pow (by decide) | exact bo_addL (Nat.le_of_ble_eq_true rfl) | exact bo_eq | exact bo_ne)
local macro_rules | `(tactic| walk_at "ix") => `(tactic| first | exact io_tup rfl | exact io_lst rfl)
def sp_law (K : PySem.W.Frag) : Sp := fun vs H Q E => ∃ (a : Addr) (ns : List Int), vs = [.ref a] ∧ SqL K H a (ns.map V.int) ∧ ∀ H', Q (.bl true) H'
theorem cutI_len (ns : List Int) : (cutI ns (some 4) (some 9)).length ≤ 5 := by
  unfold cutI
  rw [show HT.sIx ns.length 0 (some 4) = min 4 ns.length from HT.sIx_nat _ _ 4, show HT.sIx ns.length ns.length (some 9) = min 9 ns.length from HT.sIx_nat _ _ 9]
  rw [List.length_take]
  omega
theorem et_ne (z : Str) : (!decide (z = z)) = false := by
  rw [decide_eq_true rfl]
  rfl
/-- the hand behind the first statements -/
def hdB (own : Int) (b : Bool) : HdS := ⟨own, hTxt b, 0, hSer b, flt b, .non⟩
theorem flOk (b : Bool) : FlOk (flt b) (hSer b) := by
  cases b
  · exact .inl ⟨rfl, rfl⟩
  · exact .inr ⟨rfl, rfl⟩
theorem hTxt_K (b : Bool) : (hTxt b).all inK = true := by cases b <;> decide
theorem hTxt_len (b : Bool) : 0 < (hTxt b).length ∧ (hTxt b).length ≤ 60 := by cases b <;> decide
theorem LtOk.of {x : SvS} {n k h : Nat} (o : TkOk x n k h) (h1 : 4 ≤ n + k) (h2 : n + k ≤ 40) (h3 : k ≤ 20) (h4 : 1 ≤ h) (h5 : h ≤ 8) : LtOk x k h := ⟨o.kn, by rw [o.kl]; omega, by rw [o.kl]; exact h2, o.tl, h3, o.ch, o.sl, h4, h5, o.getD_nn 0⟩
section
variable {X : Cx} {S : Set'} {G : Gm} {W W1 W2 : As} {a b : Expr} {pos : Pos} {rest : List Expr} {y : Bool}
theorem ev_andT2 (h : Ev X S a G W (.bl true) W1) (k : Ev X S (.BoolOp .And (b :: rest) pos) G W1 (.bl y) W2) : Ev X S (.BoolOp .And (a :: b :: rest) pos) G W (.bl y) W2 := fun σ H ty so w Q q =>
  ⟨_, pe_and we_pe we_pe, h σ H ty so w _ fun v H1 k1 w1 p1 => ⟨true, p1, iteT (k σ H1 (ty.kept k1) (so.kept k1) w1 _ fun v H2 k2 w2 p2 => q v H2 (k1.trans k2) w2 p2)⟩⟩
end
section
variable {B : Bs} {A : Ad}
/-- a letter of hand 0 whose serial is another -/
theorem stale {sv t q : Addr} {x : SvS} {k h : Nat} (o : LtOk x k h) {ch : D} {s : Int} (h1 : okCh ch = true) (h2 : changeD ch = true) (h3 : 0 < s) (h4 : s ≠ x.serials.getD 0 0 + 1) : R_came A (svM A sv t q x) [.ref sv, .tup (asL 0 s x.taken.length ch)] (.ok (.lst [])) (svM A sv t q x) :=
  ⟨sv, t, q, x, _, rfl, o.sv, rfl, .inr (.inr ⟨0, s, x.taken.length, ch, rfl, h1, h2, Int.le_refl 0, by have := o.sl; have := o.h1; omega, h3, Nat.le_refl _, .inl ⟨h4, rfl, rfl⟩⟩)⟩
theorem misfit {sv t q : Addr} {x : SvS} {k h : Nat} (o : LtOk x k h) {l : List D} {s : Int} (h1 : okCh (.lst l) = true) (h2 : changeD (.lst l) = true) (h3 : doneF x.known l = none) (h4 : s = x.serials.getD 0 0 + 1) : R_came A (svM A sv t q x) [.ref sv, .tup (asL 0 s x.taken.length (.lst l))] (.exc A.fit) (svM A sv t q x) := by
  have s1 := o.sl
  have s2 := o.h1
  have s3 := o.sn
  exact ⟨sv, t, q, x, _, rfl, o.sv, rfl, .inr (.inr ⟨0, s, x.taken.length, .lst l, rfl, h1, h2, Int.le_refl 0, by omega, by omega, Nat.le_refl _, .inr ⟨h4, .inr ⟨A.fit, ⟨sv, t, q, x, 0, x.taken.length, .lst l, rfl, o.sv, rfl, Int.le_refl 0, by omega, .inl ⟨l, rfl, rfl, h1, h2, .inr ⟨h3, rfl, rfl⟩⟩⟩, rfl, rfl⟩⟩⟩)⟩
theorem law_rest (W : TxtW B A) {f : Addr} {cdv : Value} {Ar : Around} {outer : List Env} {s : Shared} {H : Hp} {Q : VK} {E : XK} {a : Addr} {ns : List Int} (hr : Room 9 (cx B n_law "law" s_law f cdv Ar outer s H E).A) (hgd : (cx B n_law "law" s_law f cdv Ar outer s H E).A.guards = some []) (hS : SqL B.K H a (ns.map V.int)) (hQ : ∀ H', Q (.bl true) H')
    {S : Set'} {sv t q hd kp : Addr} {x : SvS} {k h : Nat} {own : Int} (h0 : 0 ≤ own) (h7 : own ≤ 7) (o : LtOk x k h) (k9 : x.known.length ≤ 20) (k4 : 4 ≤ x.known.length) (kk : k ≤ 10) (b : Bool) :
    Blk (cx B n_law "law" s_law f cdv Ar outer s H E) S ((defBody s_law).drop 6) { nx := fun _ H' => Q .non H', rt := Q } [some (.ref a), some (.int (h : Int)), some (.int own), some (.ref sv), some (.ref hd), some (.lst (x.serials.map D.int)), none, none, none, none, none, none] (OB H (fun _ => False) S (svM A sv t q x ++ hdM A hd kp (hdB own b) .dk0)) := by
  have T := W.T
  have nd := c_law.nd
  have k_cell := ok_cellS T
  have k_all := ok_all W
  have k_noask := ok_noask T
  have k_notook := ok_notook T
  have k_srvref := ok_srvref W
  have k_hdref := ok_hdref W
  have k_flight := ok_hd_flight T
  have k_unfit := ok_unfit T
  have k_came := ok_sv_came T
  have k_oth := ok_oth W
  have k_many := ok_sv_many T
  have k_early := ok_early W
  have k_cut := ok_cut W
  have k_goes := ok_goes W
  have k_later := ok_later W
  have k_htext := ok_hd_text T
  have k_doref := ok_doref W
  have k_own := ok_own W
  have k_let := ok_let W
  have hu := hr.un
  have hu2 : (cx B n_law "law" s_law f cdv Ar outer s H E).A.units + 64 < cLine := by omega
  have hWs : ∀ {S : Set'} {m : Ms} (H' : Hp), OB H (fun _ => False) S m H' → SqL B.K H' a (ns.map V.int) := fun H' w => sql_same hS w.same0
  have hL : ∀ {Hs : Hp} {M : Set'} (H' : Hp), OB Hs M S (svM A sv t q x ++ hdM A hd kp (hdB own b) .dk0) H' → Ob S (svM A sv t q x) H' := fun _ w => w.o.left
  have hRt : ∀ {Hs : Hp} {M : Set'} (H' : Hp), OB Hs M S (svM A sv t q x ++ hdM A hd kp (hdB own b) .dk0) H' → Ob S (hdM A hd kp (hdB own b) .dk0) H' := fun _ w => w.o.right
  have etl := o.tl
  have esl := o.sl
  have eh1 := o.h1
  have eh8 := o.h8
  have esn := o.sn
  have fo := flOk b
  have hl := hTxt_len b
  have hch : isChN (flt b) = true := by cases b <;> rfl
  have ser0 : atI (x.serials.map D.int) 0 = some (.int (x.serials.getD 0 0)) := atI_of (n := 0) rfl (by rw [List.getElem?_map, getD_of 0 (by omega)]; rfl)
  refine blk_set 6 (ev_cellS (k := 1) k_cell hr (eva_cons (ev_name 0) (eva_cons ev_int eva_nil)) hWs stb_OB) ?_ nd
  generalize ns.getD 1 0 = c1
  refine blk_set 7 (ev_callG [] [] (svM A sv t q x ++ hdM A hd kp (hdB own b) .dk0) (svM A sv t q x ++ hdM A hd kp (hdB own b) .dk0) k_all hr hgd (eva_cons (ev_name 3) (eva_cons (ev_name 4) eva_nil)) ⟨sv, t, q, x, hd, kp, own, hTxt b, hSer b, flt b, rfl, rfl, h0, h7, fo, rfl, rfl⟩) ?_ nd
  have na := noAsk_bad (x := x) esl eh8 c1
  refine blk_if (et_is (et_cmp (ev_callO [] (hdM A hd kp (hdB own b) .dk0) (svM A sv t q x) (svM A sv t q x) k_srvref hr (eva_cons (ev_name 3) (eva_cons (ev_callQ (m := svM A sv t q x) k_noask hr (eva_cons (ev_name 3) (eva_cons (ev_name 1) (eva_cons (ev_name 6) eva_nil))) hL stb_OB ⟨sv, t, q, x, _, _, rfl, rfl, by omega, by omega, rfl⟩) eva_nil)) ⟨.exc A.letter, "letter", ⟨sv, t, q, x, _, rfl, o.sv, rfl, .inr (.inl ⟨na.1, na.2, rfl, rfl⟩)⟩, ew_letter W, rfl⟩) ev_str (by walk_at "op") stb_OB) (et_ne "letter")) (fun h => Bool.noConfusion h) (fun _ => blk_on ?_)
  have nt := noTook_bad (own := own) (n := ((hTxt b).length : Int)) h0 h7 c1
  refine blk_if (et_is (et_cmp (ev_callO (svM A sv t q x) [] (hdM A hd kp (hdB own b) .dk0) (hdM A hd kp (hdB own b) .dk0) k_hdref hr (eva_cons (ev_name 4) (eva_cons (ev_callQ (m := hdM A hd kp (hdB own b) .dk0) k_notook hr (eva_cons (ev_name 4) (eva_cons (ev_name 2) (eva_cons (ev_name 6) eva_nil))) hRt stb_OB ⟨hd, kp, hdB own b, _, _, rfl, rfl, hl.1, hl.2, rfl⟩) eva_nil)) ⟨.exc A.letter, "letter", ⟨hd, kp, own, hTxt b, 0, hSer b, flt b, _, rfl, rfl, .inl ⟨nt.1, nt.2, rfl, rfl⟩⟩, ew_letter W, rfl⟩) ev_str (by walk_at "op") stb_OB) (et_ne "letter")) (fun h => Bool.noConfusion h) (fun _ => blk_on ?_)
  have fli : ∀ {z : D}, flt b = z → R_hdflight A (hdM A hd kp (hdB own b) .dk0) [.ref hd] (.ok z) := fun {z} e => ⟨hd, kp, hdB own b, rfl, rfl, hch, by rw [← e]; rfl⟩
  refine blk_if (c := false) (W1 := OB H (fun _ => False) S (svM A sv t q x ++ hdM A hd kp (hdB own b) .dk0)) ?_ (fun h => Bool.noConfusion h) (fun _ => blk_on ?_)
  · cases b with
    | true => exact et_w (ew_andF (et_cmp (ev_meth0Q (m := hdM A hd kp (hdB own true) .dk0) 0 (fun _ w => w.o.right) stb_OB k_flight T.hnd.cl hr (ev_name 4) (fli (z := .lst row2) rfl)) ev_non bo_isN_lst stb_OB))
    | false => exact et_w (ew_andT (et_cmp (ev_meth0Q (m := hdM A hd kp (hdB own false) .dk0) 0 (fun _ w => w.o.right) stb_OB k_flight T.hnd.cl hr (ev_name 4) (fli (z := .non) rfl)) ev_non bo_isN_non stb_OB) (ew_one_and (et_is (et_cmp (ev_callO (svM A sv t q x) [] (hdM A hd kp (hdB own false) .dk0) (hdM A hd kp (hdB own false) .dk0) k_hdref hr (eva_cons (ev_name 4) (eva_cons (ev_tup (eva_cons ev_str (eva_cons (ev_name 2) (eva_cons ev_int (eva_cons (ev_name 2) (eva_cons (ev_lst (eva_cons (ev_tup (eva_cons ev_str (eva_cons ev_int eva_nil)) stb_OB) eva_nil) stb_OB) eva_nil))))) stb_OB) eva_nil)) ⟨.exc A.letter, "letter", ⟨hd, kp, own, startL, 0, 0, .non, _, rfl, rfl, .inr ⟨own, [keepP 5], rfl, h0, h7, Int.le_refl 0, by decide +kernel, by decide +kernel, .inl ⟨rfl, rfl, rfl, rfl⟩⟩⟩, ew_letter W, rfl⟩) ev_str (by walk_at "op") stb_OB) (et_ne "letter"))))
  obtain ⟨ul, ue, uo, uc, ud⟩ := unfit_bad (x := x.known) c1 o.kn (by omega) (by omega)
  have unf : ∀ {s : Int}, R_unfit A (svM A sv t q x) [.ref sv, .tup [.int c1, .int s]] (.ok (.tup (asL 0 (s + 1) x.taken.length (.lst ul)))) := fun {s} => ⟨sv, t, q, x, c1, s, rfl, rfl, by omega, by omega, by rw [ue]⟩
  refine blk_if (et_is (et_cmp (ev_callO [] (hdM A hd kp (hdB own b) .dk0) (svM A sv t q x) (svM A sv t q x) k_srvref hr (eva_cons (ev_name 3) (eva_cons (ev_callQ (m := svM A sv t q x) k_unfit hr (eva_cons (ev_name 3) (eva_cons (ev_tup (eva_cons (ev_name 6) (eva_cons (ev_ix (ev_name 5) ev_int (io_lst ser0)) eva_nil)) stb_OB) eva_nil)) hL stb_OB unf) eva_nil)) ⟨.exc A.fit, "fit", misfit o uo uc ud rfl, ew_fit W, rfl⟩) ev_str (by walk_at "op") stb_OB) (et_ne "fit")) (fun h => Bool.noConfusion h) (fun _ => blk_on ?_)
  -- the two stale letters
  have hz0 : ∃ z0 : Int, z0 ≠ x.serials.getD 0 0 ∧ 0 ≤ z0 ∧ z0 = (if 0 < x.serials.getD 0 0 then x.serials.getD 0 0 - 1 else 1) := by
    by_cases c : 0 < x.serials.getD 0 0
    · exact ⟨x.serials.getD 0 0 - 1, by omega, by omega, by rw [if_pos c]⟩
    · exact ⟨1, by omega, by omega, by rw [if_neg c]⟩
  obtain ⟨z0, hz1, hz2, hz3⟩ := hz0
  refine blk_forO 8 (M := fun _ => False) (H0 := H) (ds := [.int z0, .int (x.serials.getD 0 0 + 1)]) (fun _ => [some (.ref a), some (.int (h : Int)), some (.int own), some (.ref sv), some (.ref hd), some (.lst (x.serials.map D.int)), some (.int c1), some (allD x own (hTxt b) (hSer b) (flt b)), none, none, none, none]) (fun _ => svM A sv t q x ++ hdM A hd kp (hdB own b) .dk0) (ev_lst (eva_cons ?_ (eva_cons (ev_bin (ev_ix (ev_name 5) ev_int (io_lst ser0)) ev_int (by walk_at "op") stb_OB) eva_nil)) stb_OB) (fun σ H' t => t) (fun i d Hs M2 Nx hd2 fin => ?_) ?_ nd po_cx
  · by_cases c : 0 < x.serials.getD 0 0
    · rw [if_pos c] at hz3
      refine ev_ifx (c := true) (et_is (et_cmp (ev_ix (ev_name 5) ev_int (io_lst ser0)) ev_int (by walk_at "op") stb_OB) (decide_eq_true c)) (fun _ => ?_) (fun h => Bool.noConfusion h)
      refine ev_is (ev_bi (eva_cons ev_int (eva_cons (ev_bin (ev_ix (ev_name 5) ev_int (io_lst ser0)) ev_int (by walk_at "op") stb_OB) eva_nil)) (co_max rfl) stb_OB T.zmax boot_max) (congrArg D.int ?_)
      rw [hz3]
      by_cases c2 : x.serials.getD 0 0 - 1 > 0
      · rw [if_pos c2]
      · rw [if_neg c2]
        omega
    · rw [if_neg c] at hz3
      rw [hz3]
      exact ev_ifx (c := false) (et_is (et_cmp (ev_ix (ev_name 5) ev_int (io_lst ser0)) ev_int (by walk_at "op") stb_OB) (decide_eq_false c)) (fun h => Bool.noConfusion h) (fun _ => ev_int)
  · have hd3 : ∃ z : Int, d = .int z ∧ z ≠ x.serials.getD 0 0 ∧ 0 ≤ z := by
      match i, hd2 with
      | 0, e =>
        cases e
        exact ⟨z0, rfl, hz1, hz2⟩
      | 1, e =>
        cases e
        exact ⟨_, rfl, by omega, by omega⟩
      | i + 2, e => simp at e
    obtain ⟨z, rfl, hz4, hz5⟩ := hd3
    refine blk_if1 (et_cmp (ev_methO [] (hdM A hd kp (hdB own b) .dk0) (svM A sv t q x) (svM A sv t q x) 0 k_came T.srv.cl hr (ev_name 3) (eva_cons (ev_callQ (m := svM A sv t q x) k_unfit hr (eva_cons (ev_name 3) (eva_cons (ev_tup (eva_cons (ev_name 6) (eva_cons (ev_name 8) eva_nil)) stb_OB) eva_nil)) hL stb_OB unf) eva_nil) (stale o uo uc (by omega) (by omega))) (ev_lst eva_nil stb_OB) (bo_neC hu2 rfl) stb_OB) (fun h => Bool.noConfusion h) (fun _ => ?_)
    exact blk_nil fun σ H' t so w => fin σ H' (t.forget 8) so w
  refine blk_if (et_is (et_not (et_val (ev_callO [] [] (svM A sv t q x ++ hdM A hd kp (hdB own b) .dk0) (svM A sv t q x ++ hdM A hd kp (hdB own b) .dk0) k_oth hr (eva_cons (ev_name 3) (eva_cons (ev_name 4) (eva_cons (ev_cellS (k := 2) k_cell hr (eva_cons (ev_name 0) (eva_cons ev_int eva_nil)) hWs stb_OB) eva_nil))) ⟨sv, t, q, x, hd, kp, own, hTxt b, hSer b, flt b, _, rfl, o.sv, allK_SG (hTxt_K b), by omega, rfl, rfl, rfl⟩))) rfl) (fun h => Bool.noConfusion h) (fun _ => blk_on ?_)
  refine blk_if (et_cmp (ev_name 7) (ev_callG [] [] (svM A sv t q x ++ hdM A hd kp (hdB own b) .dk0) (svM A sv t q x ++ hdM A hd kp (hdB own b) .dk0) k_all hr hgd (eva_cons (ev_name 3) (eva_cons (ev_name 4) eva_nil)) ⟨sv, t, q, x, hd, kp, own, hTxt b, hSer b, flt b, rfl, rfl, h0, h7, fo, rfl, rfl⟩) (bo_neC hu2 (allD_clean h0 h7 fo o.kn (hTxt_K b))) stb_OB) (fun h => Bool.noConfusion h) (fun _ => blk_on ?_)
  refine blk_set 9 (ev_meth0Q (m := svM A sv t q x) 0 hL stb_OB k_many T.srv.cl hr (ev_name 3) ⟨sv, t, q, x, rfl, rfl, rfl⟩) ?_ nd
  -- what is taken in between
  obtain ⟨cc, rest, ek⟩ : ∃ cc rest, x.known = cc :: rest := by
    cases e : x.known with
    | nil => rw [e] at k4; simp at k4
    | cons cc rest => exact ⟨cc, rest, rfl⟩
  have hkn := o.kn
  rw [ek, List.all_cons, Bool.and_eq_true] at hkn
  have hlr : rest.length + 1 = x.known.length := by rw [ek]; rfl
  have o2 := o.step rest [cutP ⟨#[cc]⟩, keepP (rest.length : Int)] hkn.2 (by omega) (by omega) (by omega)
  have es2 := tk0_ser o rest (.lst [cutP ⟨#[cc]⟩, keepP (rest.length : Int)])
  have ek2 : (takeSt x 0 rest (.lst [cutP ⟨#[cc]⟩, keepP (rest.length : Int)])).known = rest := rfl
  have rcut : R_cut A (svM A sv t q x) [.ref sv, .int (x.serials.getD 0 0 + 1)] (.ok (.bl true)) (svM A sv t q (takeSt x 0 rest (.lst [cutP ⟨#[cc]⟩, keepP (rest.length : Int)]))) := ⟨sv, t, q, x, k, h, cc, rest, _, rfl, o, k4, by omega, ek, rfl, rfl, rfl, rfl⟩
  generalize takeSt x 0 rest (.lst [cutP ⟨#[cc]⟩, keepP (rest.length : Int)]) = x2 at o2 es2 ek2 rcut
  have o3 := o2.step (119 :: x2.known) [putP wS, keepP (x2.known.length : Int)] (by rw [List.all_cons, o2.kn]; decide) (by rw [List.length_cons, ek2]; omega) (by rw [List.length_cons, ek2]; omega) (by omega)
  have rgoes : R_goes A (svM A sv t q x2) [.ref sv, .int (h : Nat), .int (x.serials.getD 0 0 + 2)] (.ok (.bl true)) (svM A sv t q (takeSt x2 0 (119 :: x2.known) (.lst [putP wS, keepP (x2.known.length : Int)]))) := ⟨sv, t, q, x2, k + 1, h, _, rfl, o2, by rw [ek2]; omega, by omega, rfl, by rw [es2]; omega, rfl, rfl⟩
  generalize takeSt x2 0 (119 :: x2.known) (.lst [putP wS, keepP (x2.known.length : Int)]) = x3 at o3 rgoes
  refine blk_if (et_is (et_w (ew_orF2 (et_is (et_not (et_val (ev_callO [] (hdM A hd kp (hdB own b) .dk0) (svM A sv t q x) (svM A sv t q x) k_early hr (eva_cons (ev_name 3) eva_nil) ⟨sv, t, q, x, rfl, o.sv, rfl, rfl, rfl⟩))) rfl) (ew_one_or (et_not (et_val (ev_callO [] (hdM A hd kp (hdB own b) .dk0) (svM A sv t q x) (svM A sv t q x2) k_cut hr (eva_cons (ev_name 3) (eva_cons (ev_bin (ev_ix (ev_name 5) ev_int (io_lst ser0)) ev_int (by walk_at "op") stb_OB) eva_nil)) rcut)))))) rfl) (fun h => Bool.noConfusion h) (fun _ => blk_on ?_)
  refine blk_if (et_is (et_w (ew_orF2 (et_is (et_not (et_val (ev_callO [] (hdM A hd kp (hdB own b) .dk0) (svM A sv t q x2) (svM A sv t q x3) k_goes hr (eva_cons (ev_name 3) (eva_cons (ev_name 1) (eva_cons (ev_bin (ev_ix (ev_name 5) ev_int (io_lst ser0)) ev_int (by walk_at "op") stb_OB) eva_nil))) rgoes))) rfl) (ew_one_or (et_not (et_val (ev_callO [] (hdM A hd kp (hdB own b) .dk0) (svM A sv t q x3) (svM A sv t q x3) k_later hr (eva_cons (ev_name 3) (eva_cons (ev_name 9) eva_nil)) ⟨sv, t, q, x3, k + 1 + 1, h, x.taken.length, rfl, o3, by omega, rfl, rfl, rfl⟩)))))) rfl) (fun h => Bool.noConfusion h) (fun _ => blk_on ?_)
  have hsx : (Sx (hTxt b)).length ≤ 1000 := by
    rw [sx_len]
    omega
  have hRt3 : ∀ (H' : Hp), OB H (fun _ => False) S (svM A sv t q x3 ++ hdM A hd kp (hdB own b) .dk0) H' → Ob S (hdM A hd kp (hdB own b) .dk0) H' := fun _ w => w.o.right
  refine blk_set 10 (ev_lst (eva_cons (ev_tup (eva_cons ev_str (eva_cons (ev_bin (ev_is (ev_bi (eva_cons (ev_meth0Q (m := hdM A hd kp (hdB own b) .dk0) 0 hRt3 stb_OB k_htext T.hnd.cl hr (ev_name 4) ⟨hd, kp, hdB own b, rfl, rfl, rfl⟩) eva_nil) (co_len_str hsx) stb_OB T.zlen boot_len) (show D.int ((Sx (hTxt b)).length : Int) = .int ((hTxt b).length : Int) by rw [sx_len])) ev_int (by walk_at "op") stb_OB) eva_nil)) stb_OB) eva_nil) stb_OB) ?_ nd
  have kf := keep1_ok (show 0 < ((hTxt b).length : Int) + 1 by omega)
  refine blk_if (et_is (et_cmp (ev_callO (svM A sv t q x3) [] (hdM A hd kp (hdB own b) .dk0) (hdM A hd kp (hdB own b) .dk0) k_doref hr (eva_cons (ev_name 4) (eva_cons (ev_bt (eva_cons (ev_name 10) eva_nil) co_list_lst stb_OB T.zlist boot_list) eva_nil)) ⟨.exc A.fit, "fit", ⟨hd, kp, own, hTxt b, 0, hSer b, flt b, _, rfl, rfl, allK_SG (hTxt_K b), by omega, kf.1, .inr ⟨_, rfl, kf.2, .inl ⟨done_far _ _ (by omega), rfl, rfl⟩⟩⟩, ew_fit W, rfl⟩) ev_str (by walk_at "op") stb_OB) (et_ne "fit")) (fun h => Bool.noConfusion h) (fun _ => blk_on ?_)
  have fin : ∀ (held : List Nat) (se : Int) (fl : D), held.all inSG = true → held.length = (hTxt b).length + 1 → (fl = .non ∨ ∃ l0, fl = .lst l0) → Blk (cx B n_law "law" s_law f cdv Ar outer s H E) S ((defBody s_law).drop 21) { nx := fun _ H' => Q .non H', rt := Q } [some (.ref a), some (.int (h : Int)), some (.int own), some (.ref sv), some (.ref hd), some (.lst (x.serials.map D.int)), some (.int c1), some (allD x own (hTxt b) (hSer b) (flt b)), none, some (.int (x.taken.length : Int)), some (.lst [keepP (((hTxt b).length : Int) + 1)]), some (.bl true)] (OB H (fun _ => False) S (svM A sv t q x3 ++ hdM A hd kp ⟨own, held, 1, se, fl, .non⟩ .dk0)) := fun held se fl e1 e2 e3 => by
    have dn := done_all held (((hTxt b).length : Int) + 1) (by omega)
    have key : ∃ y' r0, R_hddo A (hdM A hd kp ⟨own, held, 1, se, fl, .non⟩ .dk0) [.ref hd, .lst [keepP (((hTxt b).length : Int) + 1)]] (.ok r0) (hdM A hd kp y' .dk0) := by
      rcases e3 with rfl | ⟨l0, rfl⟩
      · exact ⟨_, _, hd, kp, own, held, 1, se, .non, _, rfl, rfl, e1, by omega, kf.1, .inr ⟨_, rfl, kf.2, .inr ⟨held, dn, .inl ⟨rfl, rfl, rfl⟩⟩⟩⟩
      · exact ⟨_, _, hd, kp, own, held, 1, se, .lst l0, _, rfl, rfl, e1, by omega, kf.1, .inr ⟨_, rfl, kf.2, .inr ⟨held, dn, .inr ⟨l0, rfl, rfl, rfl⟩⟩⟩⟩
    obtain ⟨y', r0, key⟩ := key
    refine blk_ret (ev_andT2 (W1 := OB H (fun _ => False) S (svM A sv t q x3 ++ hdM A hd kp ⟨own, held, 1, se, fl, .non⟩ .dk0)) (ev_name 11) (ev_one (ev_is (ev_cmp (ev_callO (svM A sv t q x3) [] (hdM A hd kp ⟨own, held, 1, se, fl, .non⟩ .dk0) (hdM A hd kp y' .dk0) k_doref hr (eva_cons (ev_name 4) (eva_cons (ev_name 10) eva_nil)) ⟨.ok r0, "", key, rfl, rfl⟩) ev_str (by walk_at "op") stb_OB) (show D.bl (decide (("" : Str) = "")) = .bl true from rfl)))) fun v H' so w p => ?_
    cases (show v = .bl true from p)
    exact hQ H'
  cases b with
  | true =>
    refine blk_if (et_w (ew_andF (et_cmp (ev_meth0Q (m := hdM A hd kp (hdB own true) .dk0) 0 hRt3 stb_OB k_flight T.hnd.cl hr (ev_name 4) (fli (z := .lst row2) rfl)) ev_non bo_isN_lst stb_OB))) (fun h => Bool.noConfusion h) (fun _ => ?_)
    refine blk_set 11 (ev_callO (svM A sv t q x3) [] (hdM A hd kp (hdB own true) .dk0) (hdM A hd kp ⟨own, 118 :: hTxt true, 1, hSer true, fltO true, .non⟩ .dk0) k_let hr (eva_cons (ev_name 4) (eva_cons (ev_name 2) eva_nil)) ⟨hd, kp, own, true, rfl, h0, h7, rfl, rfl, rfl⟩) (blk_on ?_) nd
    exact fin (118 :: hTxt true) (hSer true) (fltO true) (by decide) rfl (.inr ⟨_, rfl⟩)
  | false =>
    refine blk_if (et_w (ew_andT (et_cmp (ev_meth0Q (m := hdM A hd kp (hdB own false) .dk0) 0 hRt3 stb_OB k_flight T.hnd.cl hr (ev_name 4) (fli (z := .non) rfl)) ev_non bo_isN_non stb_OB) (ew_one_and (et_cmp (ev_bin (ev_bin (ev_cellS (k := 3) k_cell hr (eva_cons (ev_name 0) (eva_cons ev_int eva_nil)) hWs stb_OB) ev_int (by walk_at "op") stb_OB) ev_int (by walk_at "op") stb_OB) ev_int (by walk_at "op") stb_OB)))) (fun _ => ?_) (fun _ => ?_)
    · refine blk_set 11 (ev_callO (svM A sv t q x3) [] (hdM A hd kp (hdB own false) .dk0) (hdM A hd kp ⟨own, zL, 1, 1, .non, .non⟩ .dk0) k_own hr (eva_cons (ev_name 4) (eva_cons (ev_name 2) eva_nil)) ⟨hd, kp, own, rfl, h0, h7, rfl, rfl, rfl⟩) (blk_on ?_) nd
      exact fin zL 1 .non (by decide) rfl (.inl rfl)
    · refine blk_set 11 (ev_callO (svM A sv t q x3) [] (hdM A hd kp (hdB own false) .dk0) (hdM A hd kp ⟨own, 118 :: hTxt false, 1, hSer false, fltO false, .non⟩ .dk0) k_let hr (eva_cons (ev_name 4) (eva_cons (ev_name 2) eva_nil)) ⟨hd, kp, own, false, rfl, h0, h7, rfl, rfl, rfl⟩) (blk_on ?_) nd
      exact fin (118 :: hTxt false) (hSer false) (fltO false) (by decide) rfl (.inl rfl)
end
end Ink
/-! Ink41 -/
/-! The law walked. -/
namespace Ink
open PySem PySem.Spec PyProof.Rows L2
local macro_rules | `(tactic| walk_at "op") => `(tactic| first
  | exact bo_add | exact bo_sub | exact bo_mod (by decide) | exact bo_fdiv (by decide) | exact bo_lt | exact bo_le | exact bo_gt | exact bo_ge | exact bo_eqI | exact bo_neI | exact bo_eqS | exact bo_neS | exact bo_in2 | exact bo_pow (by decide) | exact bo_addL (Nat.le_of_ble_eq_true rfl) | exact bo_eq | exact bo_ne)
local macro_rules | `(tactic| walk_at "ix") => `(tactic| first | exact io_tup rfl | exact io_lst rfl)
theorem tk_start (h : Nat) : TkOk ⟨startL, [], List.replicate h 0⟩ 5 0 h :=
  ⟨show startL.all inK = true by decide, rfl, rfl, fun p hp => (nomatch hp), List.length_replicate, fun s hs => by
    rw [List.eq_of_mem_replicate (show s ∈ List.replicate h (0 : Int) from hs)]
    omega⟩
section
variable {B : Bs} {A : Ad}
theorem run_law (W : TxtW B A) {f : Addr} {fd : FuncData} (F : Fun B.K "law" "law" s_law f fd) : RunG B 10 f fd ["_law_script"] (sp_law B.K) := by
  have T := W.T
  have k_cell := ok_cellS T
  have k_svi := ok_sv_init T
  have k_hdi := ok_hd_init T
  have k_tak := ok_tak T
  have k_do := ok_hd_do T
  have nd := c_law.nd
  refine runG_of F c_law (fun vs H Q E h => ?_) fun cdv Ar outer s H vs Q E hr hgd h => ?_
  · obtain ⟨a, ns, rfl, _⟩ := h
    rfl
  obtain ⟨a, ns, rfl, hS, hQ⟩ := h
  have t0 : Ty (fun _ => False) H (L2.start n_law [.ref a]) [some (.ref a), none, none, none, none, none, none, none, none, none, none, none] := ty_start (N := n_law) (ds := [.ref a]) ⟨_, _, rfl, rfl, rfl⟩ (Nat.le_of_ble_eq_true rfl)
  refine (?_ : Blk (cx B n_law "law" s_law f cdv Ar outer s H E) (fun _ => False) (defBody s_law) { nx := fun _ H' => Q .non H', rt := Q } [some (.ref a), none, none, none, none, none, none, none, none, none, none, none] (OB H (fun _ => False) (fun _ => False) [])) _ H t0 (fun b z => z.elim) ⟨Kept.refl H, (fun x hx => nomatch hx), ⟨List.nodup_nil, fun x hx => nomatch hx⟩⟩
  have hWs : ∀ {S : Set'} {m : Ms} (H' : Hp), OB H (fun _ => False) S m H' → SqL B.K H' a (ns.map V.int) := fun H' w => sql_same hS w.same0
  obtain ⟨hn, e1, e2, e3⟩ : ∃ hn : Nat, 1 + ns.getD 0 0 % 8 = (hn : Int) ∧ 1 ≤ hn ∧ hn ≤ 8 := ⟨(1 + ns.getD 0 0 % 8).toNat, by omega, by omega, by omega⟩
  refine blk_set 1 (ev_is (ev_bin ev_int (ev_bin (ev_cellS (k := 0) k_cell hr (eva_cons (ev_name 0) (eva_cons ev_int eva_nil)) hWs stb_OB) ev_int (by walk_at "op") stb_OB) (by walk_at "op") stb_OB) (congrArg D.int e1)) ?_ nd
  refine blk_set 2 (ev_bin (ev_bin (ev_cellS (k := 0) k_cell hr (eva_cons (ev_name 0) (eva_cons ev_int eva_nil)) hWs stb_OB) ev_int (by walk_at "op") stb_OB) (ev_name 1) (bo_mod (show (0 : Int) < (hn : Int) by omega)) stb_OB) ?_ nd
  have o1 := Int.emod_nonneg (ns.getD 0 0 / 8) (show (hn : Int) ≠ 0 by omega)
  have o2 := Int.emod_lt_of_pos (ns.getD 0 0 / 8) (show (0 : Int) < (hn : Int) by omega)
  have o3 : ns.getD 0 0 / 8 % (hn : Int) ≤ 7 := by omega
  generalize ns.getD 0 0 / 8 % (hn : Int) = own at o1 o2 o3 ⊢
  refine blk_make (j := 8) 3 k_svi hr T.srv.g (eva_cons ev_str (eva_cons (ev_name 1) eva_nil)) (.inr (.inr ⟨startL, hn, by rfl, by decide, by decide, e2, e3, rfl, rfl⟩)) (fun sv as f1 => ?_) (fun p as => ⟨_, .head _, rfl⟩) nd
  generalize as.getD 0 0 = t at f1 ⊢
  generalize as.getD 1 0 = q at f1 ⊢
  refine blk_make (j := 8) 4 k_hdi hr T.hnd.g (eva_cons (ev_name 2) (eva_cons ev_str eva_nil)) (.inr (.inr ⟨own, startL, by rfl, o1, o3, by decide, by decide, rfl, rfl⟩)) (fun hd as2 f2 => ?_) (fun p as => ⟨_, .head _, rfl⟩) nd
  generalize as2.getD 0 0 = kp at f2 ⊢
  generalize wid (wid (fun _ => False) (adr (svM A sv t q ⟨startL, [], List.replicate hn 0⟩))) (adr (hdM A hd kp ⟨own, startL, 0, 0, .non, .non⟩ .dk0)) = S
  have len5 := cutI_len ns
  refine blk_set 5 (ev_callO [] (hdM A hd kp ⟨own, startL, 0, 0, .non, .non⟩ .dk0) (svM A sv t q ⟨startL, [], List.replicate hn 0⟩) (svM A sv t q (tkRun ⟨startL, [], List.replicate hn 0⟩ (cutI ns (some 4) (some 9)))) k_tak hr (eva_cons (ev_name 3) (eva_cons (ev_slS hWs (ev_name 0) (eo_some ev_int) (eo_some ev_int) stb_OB) (eva_cons (ev_name 1) eva_nil))) ⟨sv, t, q, 5, hn, startL, _, rfl, by decide, rfl, e2, e3, len5, by decide, rfl, rfl, rfl⟩) ?_ nd
  have ot := (tk_start hn).run (cutI ns (some 4) (some 9))
  generalize (cutI ns (some 4) (some 9)).length = k at ot len5
  generalize tkRun ⟨startL, [], List.replicate hn 0⟩ (cutI ns (some 4) (some 9)) = x at ot ⊢
  have lt : LtOk x (0 + k) hn := LtOk.of ot (by omega) (by omega) (by omega) e2 e3
  have kl := ot.kl
  have k9 : x.known.length ≤ 20 := by omega
  have k4 : 4 ≤ x.known.length := by omega
  refine blk_if (et_cmp (ev_bin (ev_cellS (k := 3) k_cell hr (eva_cons (ev_name 0) (eva_cons ev_int eva_nil)) hWs stb_OB) ev_int (by walk_at "op") stb_OB) ev_int (by walk_at "op") stb_OB) (fun _ => ?_) (fun _ => blk_on ?_)
  · have rd : R_hddo A (hdM A hd kp ⟨own, startL, 0, 0, .non, .non⟩ .dk0) [.ref hd, .lst row2] (.ok (.lst [askedL ⟨own, zL, 0, 1, .lst row2, .non⟩])) (hdM A hd kp ⟨own, zL, 0, 1, .lst row2, .non⟩ .dk0) :=
      ⟨hd, kp, own, startL, 0, 0, .non, _, rfl, rfl, by decide +kernel, by decide, by decide +kernel, .inr ⟨row2, rfl, by decide +kernel, .inr ⟨zL, by decide +kernel, .inl ⟨rfl, rfl, rfl⟩⟩⟩⟩
    refine blk_expr (ev_methO (svM A sv t q x) [] (hdM A hd kp ⟨own, startL, 0, 0, .non, .non⟩ .dk0) (hdM A hd kp ⟨own, zL, 0, 1, .lst row2, .non⟩ .dk0) 3 k_do T.hnd.cl hr (ev_name 4) (eva_cons (ev_lst (eva_cons (ev_tup (eva_cons ev_str (eva_cons ev_str eva_nil)) stb_OB) (eva_cons (ev_tup (eva_cons ev_str (eva_cons ev_int eva_nil)) stb_OB) eva_nil)) stb_OB) eva_nil) rd) (blk_on ?_)
    exact law_rest W hr hgd hS hQ o1 o3 lt k9 k4 (by omega) true
  · exact law_rest W hr hgd hS hQ o1 o3 lt k9 k4 (by omega) false
end
end Ink
/-! Ink42 -/
/-! The end: a law def that may show its data is called by the harness. -/
namespace Ink
open PySem PySem.Spec PyProof.Rows L2
/-- what the harness asks of the law's call -/
abbrev Won (s : Shared) : Result → Shared → Prop := fun r t => r = .ok (.ret (.bool true)) ∧ OldK s.heap t.heap ∧ t.os = s.os ∧ AllBare t.gens
section
variable {B : Bs} {k : Nat} {fa a : Addr} {fd : FuncData} {x : Str} {sp : Sp} {s : Shared} {H : Hp}
/-- the law's call where its promise is kept over the frozen heap H -/
theorem won_of (run : RunG B k fa fd [x] sp) (rm : Room k callerA) (hb : ∀ (s : Shared) (u : Value), BindsTo s fd ⟨[u], []⟩ [(x, u)])
    (e0 : Env0 B.P B.w B.K B.mg B.base callerA [] s H) (only : Only H) (h : sp [.ref a] H (fun v _ => v = .bl true) fun _ _ _ => False) :
    codeAny (model B.P B.w) callerA (.call (.ref fa) ⟨[.ref a], []⟩) (Won s) s := by
  have go := run callerA [] s H ⟨[.ref a], []⟩ [.ref a] [.ref a] _ _ rm rfl e0 (hb s (.ref a)) (.cons rfl .nil) h
  refine codeAny_mono go fun r t z => ?_
  cases r with
  | error e =>
    obtain ⟨_, _, _, _, _, _, _, _, _, _, _, _, no⟩ := z
    cases no
  | ok fl =>
    cases fl with
    | next => cases z
    | brk => cases z
    | cont => cases z
    | ret u =>
      obtain ⟨v, H2, os, bare, un, hok, rel, rfl⟩ := z
      cases (show u = Value.bool true from rel)
      refine ⟨rfl, OldK.of_keep fun b o ob => ?_, os, bare⟩
      rcases only b with q | ⟨o2, l, q⟩
      · exact un.keep b o ob q (fun m => by cases (show b ∈ ([] : List Addr) from m)) (by simp)
      · have g1 := (e0.hok b _ q).1
        have g2 := (hok b _ (un.frzs b o2 _ q)).1
        rw [ob] at g1
        cases g1
        exact g2
end
/-- a list of the heap, as the harness lays the script -/
abbrev lay (vs : List Value) : Obj := { cls := .type "list", data := .seq vs.toArray }
section
variable {P : Program} {w : World} {K : PySem.W.Frag} {mg mb : Str → Option Value} {a : Addr} {s : Shared} {vs : List Value} {ns : List Int} {H : Hp}
/-- the surroundings of the call: beside the script nothing is told apart from the ground -/
theorem outset (KX : K.In s.heap) (ng : s.heap.Ns mainGlobals mg) (nb : s.heap.Ns builtinsNs mb) (bb : ∀ x : Str, x ≠ "__name__" → mb x = bootBuiltins x) (lim : s.heap.NoLimit) (gs : s.gens = #[])
    (at_a : s.heap.get? a = some (lay vs)) (one : ∀ b, b ≠ a → H b = none) (out : H a = none ∨ K.lookup a = none) (ok : HOk P w H s.heap) : Env0 P w K mg (hidT s.heap H) callerA [] s H := by
  have dicts : ∀ {b : Addr} {m : Str → Option Value}, s.heap.Ns b m → (hidT s.heap H).Ns b m := fun {b m} ⟨o, es, ep, g, d, r⟩ =>
    ⟨o, es, ep, hidT_get g (one b fun q => by
      rw [q, at_a] at g
      cases g
      exact Data.noConfusion d), d, r⟩
  have kin : K.In (hidT s.heap H) := fun b o e => hidT_get (KX b o e) (by
    by_cases q : b = a
    · rcases out with z | z
      · rw [q]
        exact z
      · rw [q, z] at e
        cases e
    · exact one b q)
  obtain ⟨mc, l1, l2⟩ := lim
  exact { frames := rfl, mod := ⟨kin, dicts ng, ⟨mb, dicts nb, bb⟩, ⟨mc, dicts l1, l2⟩⟩, bs := fun _ _ e => of_hidT e, bsz := Nat.le_of_eq (hidT_size _ _), funs := True.intro, frf := fun b m => (List.not_mem_nil (show b ∈ ([] : List Addr) from m)).elim, hok := ok, bare := .of_eq gs }
/-- the law's call, the promise of its def given -/
theorem law_won {k : Nat} {fa : Addr} {fd : FuncData} {x : Str} (KX : K.In s.heap) (ng : s.heap.Ns mainGlobals mg) (nb : s.heap.Ns builtinsNs mb) (bb : ∀ x : Str, x ≠ "__name__" → mb x = bootBuiltins x) (lim : s.heap.NoLimit) (gs : s.gens = #[])
    (at_a : s.heap.get? a = some (lay vs)) (iv : IntsAre vs ns) (len : ns.length ≤ sizeLine) (rm : Room k callerA) (hb : ∀ (s : Shared) (u : Value), BindsTo s fd ⟨[u], []⟩ [(x, u)])
    (run : ∀ base : Heap, K.In base → base.Ns mainGlobals mg → RunG ⟨P, w, K, mg, base⟩ k fa fd [x] (sp_law K)) :
    codeAny (model P w) callerA (.call (.ref fa) ⟨[.ref a], []⟩) (Won s) s := by
  have rv := vals_ints iv
  have go : ∀ H : Hp, Only H → SqL K H a (ns.map V.int) → (∀ b, b ≠ a → H b = none) → (H a = none ∨ K.lookup a = none) → HOk P w H s.heap → codeAny (model P w) callerA (.call (.ref fa) ⟨[.ref a], []⟩) (Won s) s := fun H only sq one out ok => by
    have e0 := outset KX ng nb bb lim gs at_a one out ok
    exact won_of (B := ⟨P, w, K, mg, hidT s.heap H⟩) (run _ e0.mod.kin e0.mod.glob) rm hb e0 only ⟨a, ns, rfl, sq, fun _ => rfl⟩
  cases q : K.lookup a with
  | some o =>
    have g := KX a o q
    rw [at_a] at g
    cases g
    exact go (fun _ => none) (fun _ => Or.inl rfl) (Or.inr ⟨_, vs.toArray, _, q, rfl, rfl, rfl, by rw [List.size_toArray, iv.length]; exact len, by simpa using rv⟩) (fun _ _ => rfl) (Or.inl rfl) fun b u z => nomatch (show (none : Option HO) = some u from z)
  | none =>
    refine go (fun b => if b = a then some (.frz (lay vs) (.lst (ns.map V.int))) else none) (fun b => ?_) (Or.inl (Or.inr ⟨lay vs, if_pos rfl⟩)) (fun b c => if_neg c) (Or.inr q) fun b u z => ?_
    · by_cases c : b = a
      · exact Or.inr ⟨lay vs, _, if_pos c⟩
      · exact Or.inl (if_neg c)
    · by_cases c : b = a
      · have z2 : some (HO.frz (lay vs) (.lst (ns.map V.int))) = some u := (if_pos c).symm.trans z
        cases z2
        rw [c]
        exact ⟨at_a, by rw [List.length_map]; exact len, vs, _, rv, at_a⟩
      · have z2 : (none : Option HO) = some u := (if_neg c).symm.trans z
        cases z2
end
/-- the row's walk -/
theorem walkG {l : PySem.W.OpenLaw} {n k : Nat} {q : Program} {loose : List Str} {XP : (Str → Option Value) → Heap → Prop} {YP : World → Heap → Prop} {d : DefRec} {K : PySem.Params → PySem.W.Frag} {x : Str}
    (hn : l.most = some n) (sz : n ≤ sizeLine) (nodef : d.params.defaults = []) (rm : Room k callerA) (hY : ∀ (w : World) (h : Heap), YP w h → (K w.params).In h)
    (F : ∀ (w : World) (mg : Str → Option Value) (fa : Addr) (h : Heap), (K w.params).In h → h.Ns mainGlobals mg → mg d.name = some (.ref fa) →
      ∃ fd : FuncData, (∀ (s : Shared) (u : Value), BindsTo s fd ⟨[u], []⟩ [(x, u)]) ∧ ∀ base : Heap, (K w.params).In base → base.Ns mainGlobals mg → RunG ⟨l.prog, w, K w.params, mg, base⟩ k fa fd [x] (sp_law (K w.params))) :
    PySem.W.WalkO q loose XP YP l.row.toRowW d [] (fun f vs => PySem.call f vs) :=
  Att.attach_call hn nodef fun w s0 s mg mb fa o pm cd doc a vs ns G Y _ _ _ hmg at_a iv len gs => by
    have kx := hY w _ Y
    obtain ⟨fd, hb, run⟩ := F w mg fa _ kx G.T.g hmg
    exact law_won kx G.T.g G.T.b G.T.builtins G.T.nolimit gs at_a iv (Nat.le_trans len sz) rm hb run
end Ink
/-! Ink43 -/
/-! What the top has written, made of the facts of its ground. -/
namespace Ink
open PySem PySem.Spec PyProof.Rows L2
section
variable {P : Program} {w : World} {K : PySem.W.Frag} {mg : Str → Option Value} {base h : Heap} {x q : Str} {st : Stmt} {f C : Addr} {oc kV dc pm cd ct : Value} {od an : Option Addr} {sl : Array (Option Value)}
theorem df_mk (X : K.In h) (G : h.Ns mainGlobals mg) (a : PySem.W.nsIn K mainGlobals x = some (some (.ref f))) (l : K.lookup f = some ⟨oc, od, .func (PySem.W.fnOf x x (defArgs st) (defBody st) (defScope st) .none kV dc pm an cd ct), sl⟩) (c : PySem.W.codeIn K cd x = true) (k : PySem.W.keepIn K (.ref f) = true) :
    Df ⟨P, w, K, mg, base⟩ x st := ⟨f, _, fun_mk l c k, PySem.W.mg_of X G a⟩
theorem mf_mk (a : PySem.W.findIn K (.ref C) x = some (some (.ref f))) (i : PySem.W.isFn K (.ref f) = true) (l : K.lookup f = some ⟨oc, od, .func (PySem.W.fnOf x q (defArgs st) (defBody st) (defScope st) .none kV dc pm an cd ct), sl⟩) (c : PySem.W.codeIn K cd q = true) (k : PySem.W.keepIn K (.ref f) = true) :
    Mf ⟨P, w, K, mg, base⟩ C x q st := ⟨f, _, fun_mk l c k, a, i, k⟩
theorem sg_mk {z : Str} {u : Nat} (X : K.In h) (G : h.Ns mainGlobals mg) (a : PySem.W.nsIn K mainGlobals x = some (some (.str z u))) {y : Str} (e : z = y) : ∃ u, mg x = some (.str y u) := ⟨u, e ▸ PySem.W.mg_of X G a⟩
theorem ms_mk {z i : Int} {u : Tok} (X : K.In h) (G : h.Ns mainGlobals mg) (a : PySem.W.nsIn K mainGlobals x = some (some (.int z u))) (e : z = i) : ∃ u, mg x = some (.int i u) := ⟨u, e ▸ PySem.W.mg_of X G a⟩
theorem nf_nil : ∀ f ∈ ([] : List Str), NoAttr K C f := fun _ m => (List.not_mem_nil m).elim
theorem nf_cons {l : List Str} (a : PySem.W.findIn K (.ref C) x = some none) (r : ∀ f ∈ l, NoAttr K C f) : ∀ f ∈ x :: l, NoAttr K C f := fun f m => by
  rcases List.mem_cons.mp m with e | e
  · rw [e]
    exact a
  · exact r f e
theorem xi_cons {D c : Addr} {l : List Addr} (a : PySem.W.exmOne K (.ref c) (.ref D) = some true) (r : ∀ c ∈ l, PySem.W.exmOne K (.ref c) (.ref D) = some true) : ∀ y ∈ c :: l, PySem.W.exmOne K (.ref y) (.ref D) = some true := fun f m => by
  rcases List.mem_cons.mp m with e | e
  · rw [e]
    exact a
  · exact r f e
theorem xi_nil {D : Addr} : ∀ y ∈ ([] : List Addr), PySem.W.exmOne K (.ref y) (.ref D) = some true := fun _ m => (List.not_mem_nil m).elim
/-- the law's own promise, its def chosen ahead of the base -/
theorem law_end {A : Ad} {fa : Addr} (X : K.In h) (G : h.Ns mainGlobals mg) (hfa : mg "law" = some (.ref fa)) (a : PySem.W.nsIn K mainGlobals "law" = some (some (.ref f))) (l : K.lookup f = some ⟨oc, od, .func (PySem.W.fnOf "law" "law" (defArgs s_law) (defBody s_law) (defScope s_law) .none kV dc pm an cd ct), sl⟩) (c : PySem.W.codeIn K cd "law" = true) (k : PySem.W.keepIn K (.ref f) = true)
    (T : ∀ base : Heap, TxtW ⟨P, w, K, mg, base⟩ A) :
    ∃ fd : FuncData, (∀ (s : Shared) (v : Value), BindsTo s fd ⟨[v], []⟩ [("_law_script", v)]) ∧ ∀ base : Heap, K.In base → base.Ns mainGlobals mg → RunG ⟨P, w, K, mg, base⟩ 10 fa fd ["_law_script"] (sp_law K) := by
  cases hfa.symm.trans (PySem.W.mg_of X G a)
  have F := fun_mk (st := s_law) l c k
  exact ⟨_, fun s v => .of_eq rfl, fun base _ _ => run_law (T base) F⟩
end
/-- an error class of the module, on the ground -/
structure XcF (K : PySem.W.Frag) (C ink : Addr) : Prop where
  q : PySem.W.excIn K C [.type "ValueError", .type "Exception", .type "BaseException", .type "object"] "ValueError.__new__" = true
  k : PySem.W.keepIn K (.ref C) = true
  s : PySem.W.subIn K (.ref C) (.type "BaseException") = some true
  t : PySem.W.typeIn K (.ref C) = some (.type "type")
  e : ExcC K C
  i : PySem.W.exmOne K (.ref C) (.ref ink) = some true
  o : PySem.W.kitOne K (.ref C) (.ref ink) = some true
  v : PySem.W.kitOne K (.ref C) (.type "ValueError") = some true
structure KitF (K : PySem.W.Frag) (C text change fit place side mark node cursor deed letter gone hand note : Addr) (b0 b1 b2 b3 b4 b5 b6 b7 b8 b9 b10 b11 b12 : Bool) : Prop where
  k0 : PySem.W.kitOne K (.ref C) (.ref text) = some b0
  k1 : PySem.W.kitOne K (.ref C) (.ref change) = some b1
  k2 : PySem.W.kitOne K (.ref C) (.ref fit) = some b2
  k3 : PySem.W.kitOne K (.ref C) (.ref place) = some b3
  k4 : PySem.W.kitOne K (.ref C) (.ref side) = some b4
  k5 : PySem.W.kitOne K (.ref C) (.ref mark) = some b5
  k6 : PySem.W.kitOne K (.ref C) (.ref node) = some b6
  k7 : PySem.W.kitOne K (.ref C) (.ref cursor) = some b7
  k8 : PySem.W.kitOne K (.ref C) (.ref deed) = some b8
  k9 : PySem.W.kitOne K (.ref C) (.ref letter) = some b9
  k10 : PySem.W.kitOne K (.ref C) (.ref gone) = some b10
  k11 : PySem.W.kitOne K (.ref C) (.ref hand) = some b11
  k12 : PySem.W.kitOne K (.ref C) (.ref note) = some b12
structure OcF (K : PySem.W.Frag) (C : Addr) : Prop where
  pg : PySem.W.plainGet K C Str.empty = true
  hd : PySem.W.hasDictIn K C = true
  po : PySem.W.plainOver K C = true
  sa : PySem.W.findIn K (.ref C) "__setattr__" = some (some (.builtin "object.__setattr__"))
  mi : PySem.W.makesIn K C = true
  kp : PySem.W.keepIn K (.ref C) = true
section
variable {P : Program} {w : World} {K : PySem.W.Frag} {mg : Str → Option Value} {h : Heap} {f : Addr} {oc kV dc pm cd ct : Value} {od an : Option Addr} {sl : Array (Option Value)}
theorem ink_all {fa : Addr} {ink text change fit place side mark node cursor deed letter gone hand note rdr srv hnd : Addr} (X : K.In h) (G : h.Ns mainGlobals mg) (hfa : mg "law" = some (.ref fa)) (a : PySem.W.nsIn K mainGlobals "law" = some (some (.ref f))) (l : K.lookup f = some ⟨oc, od, .func (PySem.W.fnOf "law" "law" (defArgs s_law) (defBody s_law) (defScope s_law) .none kV dc pm an cd ct), sl⟩) (c : PySem.W.codeIn K cd "law" = true) (k : PySem.W.keepIn K (.ref f) = true)
    (g_ink : PySem.W.nsIn K mainGlobals "InkError" = some (some (.ref ink)))
    (g_text : PySem.W.nsIn K mainGlobals "BadText" = some (some (.ref text)))
    (g_change : PySem.W.nsIn K mainGlobals "BadChange" = some (some (.ref change)))
    (g_fit : PySem.W.nsIn K mainGlobals "BadFit" = some (some (.ref fit)))
    (g_place : PySem.W.nsIn K mainGlobals "NoPlace" = some (some (.ref place)))
    (g_side : PySem.W.nsIn K mainGlobals "BadSide" = some (some (.ref side)))
    (g_mark : PySem.W.nsIn K mainGlobals "NoMark" = some (some (.ref mark)))
    (g_node : PySem.W.nsIn K mainGlobals "NoNode" = some (some (.ref node)))
    (g_cursor : PySem.W.nsIn K mainGlobals "NoCursor" = some (some (.ref cursor)))
    (g_deed : PySem.W.nsIn K mainGlobals "BadDeed" = some (some (.ref deed)))
    (g_letter : PySem.W.nsIn K mainGlobals "BadLetter" = some (some (.ref letter)))
    (g_gone : PySem.W.nsIn K mainGlobals "NoLetter" = some (some (.ref gone)))
    (g_hand : PySem.W.nsIn K mainGlobals "NoHand" = some (some (.ref hand)))
    (g_note : PySem.W.nsIn K mainGlobals "NoNote" = some (some (.ref note)))
    (g_rdr : PySem.W.nsIn K mainGlobals "Reader" = some (some (.ref rdr)))
    (g_srv : PySem.W.nsIn K mainGlobals "Server" = some (some (.ref srv)))
    (g_hnd : PySem.W.nsIn K mainGlobals "Hand" = some (some (.ref hnd)))
    (zlen : PySem.W.nsIn K mainGlobals "len" = some none)
    (zisi : PySem.W.nsIn K mainGlobals "isinstance" = some none)
    (zall : PySem.W.nsIn K mainGlobals "all" = some none)
    (zsum : PySem.W.nsIn K mainGlobals "sum" = some none)
    (zmin : PySem.W.nsIn K mainGlobals "min" = some none)
    (zmax : PySem.W.nsIn K mainGlobals "max" = some none)
    (zint : PySem.W.nsIn K mainGlobals "int" = some none)
    (zstr : PySem.W.nsIn K mainGlobals "str" = some none)
    (zbool : PySem.W.nsIn K mainGlobals "bool" = some none)
    (zlist : PySem.W.nsIn K mainGlobals "list" = some none)
    (ztuple : PySem.W.nsIn K mainGlobals "tuple" = some none)
    (zrange : PySem.W.nsIn K mainGlobals "range" = some none)
    (zrepr : PySem.W.nsIn K mainGlobals "repr" = some none)
    (zve : PySem.W.nsIn K mainGlobals "ValueError" = some none)
    (signs : ∃ u, mg "SIGNS" = some (.str SG u)) (most : ∃ u, mg "MOST_HANDS" = some (.int 8 u)) (xmc : PySem.W.exmOne K (.ref change) (.ref change) = some true)
    (x_text : XcF K text ink) (k_text : KitF K text text change fit place side mark node cursor deed letter gone hand note true false false false false false false false false false false false false)
    (x_change : XcF K change ink) (k_change : KitF K change text change fit place side mark node cursor deed letter gone hand note false true false false false false false false false false false false false)
    (x_fit : XcF K fit ink) (k_fit : KitF K fit text change fit place side mark node cursor deed letter gone hand note false false true false false false false false false false false false false)
    (x_letter : XcF K letter ink) (k_letter : KitF K letter text change fit place side mark node cursor deed letter gone hand note false false false false false false false false false true false false false)
    (x_gone : XcF K gone ink) (k_gone : KitF K gone text change fit place side mark node cursor deed letter gone hand note false false false false false false false false false false true false false)
    (x_hand : XcF K hand ink) (k_hand : KitF K hand text change fit place side mark node cursor deed letter gone hand note false false false false false false false false false false false true false)
    (o_rdr : OcF K rdr) (n_rdr : ∀ f ∈ (["rest"] : List Str), NoAttr K rdr f)
    (o_srv : OcF K srv) (n_srv : ∀ f ∈ (["known", "taken", "serials"] : List Str), NoAttr K srv f)
    (o_hnd : OcF K hnd) (n_hnd : ∀ f ∈ (["own", "held", "knows", "serial", "flown", "queue", "kept"] : List Str), NoAttr K hnd f)
    (d_is_whole : ∀ base, Df ⟨P, w, K, mg, base⟩ "is_whole" s_is_whole)
    (d_is_text : ∀ base, Df ⟨P, w, K, mg, base⟩ "is_text" s_is_text)
    (d_need_text : ∀ base, Df ⟨P, w, K, mg, base⟩ "need_text" s_need_text)
    (d_is_part : ∀ base, Df ⟨P, w, K, mg, base⟩ "is_part" s_is_part)
    (d_need_change : ∀ base, Df ⟨P, w, K, mg, base⟩ "need_change" s_need_change)
    (d_size_of : ∀ base, Df ⟨P, w, K, mg, base⟩ "size_of" s_size_of)
    (d_sizes : ∀ base, Df ⟨P, w, K, mg, base⟩ "sizes" s_sizes)
    (d_run_of : ∀ base, Df ⟨P, w, K, mg, base⟩ "run_of" s_run_of)
    (d_with_keep : ∀ base, Df ⟨P, w, K, mg, base⟩ "with_keep" s_with_keep)
    (d_neat : ∀ base, Df ⟨P, w, K, mg, base⟩ "neat" s_neat)
    (d_done : ∀ base, Df ⟨P, w, K, mg, base⟩ "done" s_done)
    (d_put_past : ∀ base, Df ⟨P, w, K, mg, base⟩ "put_past" s_put_past)
    (d_signs_past : ∀ base, Df ⟨P, w, K, mg, base⟩ "signs_past" s_signs_past)
    (d_passed : ∀ base, Df ⟨P, w, K, mg, base⟩ "passed" s_passed)
    (d_is_change : ∀ base, Df ⟨P, w, K, mg, base⟩ "is_change" s_is_change)
    (d_is_number : ∀ base, Df ⟨P, w, K, mg, base⟩ "is_number" s_is_number)
    (d_is_ask : ∀ base, Df ⟨P, w, K, mg, base⟩ "is_ask" s_is_ask)
    (d_is_again : ∀ base, Df ⟨P, w, K, mg, base⟩ "is_again" s_is_again)
    (d_is_took : ∀ base, Df ⟨P, w, K, mg, base⟩ "is_took" s_is_took)
    (d_copied : ∀ base, Df ⟨P, w, K, mg, base⟩ "copied" s_copied)
    (d_w_cell_at : ∀ base, Df ⟨P, w, K, mg, base⟩ "_law_cell_at" s_w_cell_at)
    (d_w_server_refused : ∀ base, Df ⟨P, w, K, mg, base⟩ "_law_server_refused" s_w_server_refused)
    (d_w_hand_refused : ∀ base, Df ⟨P, w, K, mg, base⟩ "_law_hand_refused" s_w_hand_refused)
    (d_w_made_refused : ∀ base, Df ⟨P, w, K, mg, base⟩ "_law_made_refused" s_w_made_refused)
    (d_w_number_refused : ∀ base, Df ⟨P, w, K, mg, base⟩ "_law_number_refused" s_w_number_refused)
    (d_w_change_refused : ∀ base, Df ⟨P, w, K, mg, base⟩ "_law_change_refused" s_w_change_refused)
    (d_w_no_change : ∀ base, Df ⟨P, w, K, mg, base⟩ "_law_no_change" s_w_no_change)
    (d_w_no_ask : ∀ base, Df ⟨P, w, K, mg, base⟩ "_law_no_ask" s_w_no_ask)
    (d_w_no_took : ∀ base, Df ⟨P, w, K, mg, base⟩ "_law_no_took" s_w_no_took)
    (d_w_unfit : ∀ base, Df ⟨P, w, K, mg, base⟩ "_law_unfit" s_w_unfit)
    (d_w_taken : ∀ base, Df ⟨P, w, K, mg, base⟩ "_law_taken" s_w_taken)
    (d_w_first_refused : ∀ base, Df ⟨P, w, K, mg, base⟩ "_law_first_refused" s_w_first_refused)
    (d_w_others_refused : ∀ base, Df ⟨P, w, K, mg, base⟩ "_law_others_refused" s_w_others_refused)
    (d_w_cut : ∀ base, Df ⟨P, w, K, mg, base⟩ "_law_cut" s_w_cut)
    (d_w_goes_on : ∀ base, Df ⟨P, w, K, mg, base⟩ "_law_goes_on" s_w_goes_on)
    (d_w_own_comes : ∀ base, Df ⟨P, w, K, mg, base⟩ "_law_own_comes" s_w_own_comes)
    (d_w_early : ∀ base, Df ⟨P, w, K, mg, base⟩ "_law_early" s_w_early)
    (d_w_later : ∀ base, Df ⟨P, w, K, mg, base⟩ "_law_later" s_w_later)
    (d_w_letter_comes : ∀ base, Df ⟨P, w, K, mg, base⟩ "_law_letter_comes" s_w_letter_comes)
    (d_w_word : ∀ base, Df ⟨P, w, K, mg, base⟩ "_law_word" s_w_word)
    (d_w_all : ∀ base, Df ⟨P, w, K, mg, base⟩ "_law_all" s_w_all)
    (m_Reader_init : ∀ base, Mf ⟨P, w, K, mg, base⟩ rdr "__init__" "Reader.__init__" s_Reader_init)
    (m_Reader_word : ∀ base, Mf ⟨P, w, K, mg, base⟩ rdr "word" "Reader.word" s_Reader_word)
    (m_Reader_next_size : ∀ base, Mf ⟨P, w, K, mg, base⟩ rdr "next_size" "Reader.next_size" s_Reader_next_size)
    (m_Reader_cut_off : ∀ base, Mf ⟨P, w, K, mg, base⟩ rdr "cut_off" "Reader.cut_off" s_Reader_cut_off)
    (m_Server_init : ∀ base, Mf ⟨P, w, K, mg, base⟩ srv "__init__" "Server.__init__" s_Server_init)
    (m_Server_text : ∀ base, Mf ⟨P, w, K, mg, base⟩ srv "text" "Server.text" s_Server_text)
    (m_Server_many : ∀ base, Mf ⟨P, w, K, mg, base⟩ srv "many" "Server.many" s_Server_many)
    (m_Server_change : ∀ base, Mf ⟨P, w, K, mg, base⟩ srv "change" "Server.change" s_Server_change)
    (m_Server_took : ∀ base, Mf ⟨P, w, K, mg, base⟩ srv "took" "Server.took" s_Server_took)
    (m_Server_came : ∀ base, Mf ⟨P, w, K, mg, base⟩ srv "came" "Server.came" s_Server_came)
    (m_Server_take : ∀ base, Mf ⟨P, w, K, mg, base⟩ srv "take" "Server.take" s_Server_take)
    (m_Hand_init : ∀ base, Mf ⟨P, w, K, mg, base⟩ hnd "__init__" "Hand.__init__" s_Hand_init)
    (m_Hand_text : ∀ base, Mf ⟨P, w, K, mg, base⟩ hnd "text" "Hand.text" s_Hand_text)
    (m_Hand_seen : ∀ base, Mf ⟨P, w, K, mg, base⟩ hnd "seen" "Hand.seen" s_Hand_seen)
    (m_Hand_flight : ∀ base, Mf ⟨P, w, K, mg, base⟩ hnd "flight" "Hand.flight" s_Hand_flight)
    (m_Hand_asked : ∀ base, Mf ⟨P, w, K, mg, base⟩ hnd "asked" "Hand.asked" s_Hand_asked)
    (m_Hand_flies : ∀ base, Mf ⟨P, w, K, mg, base⟩ hnd "flies" "Hand.flies" s_Hand_flies)
    (m_Hand_do : ∀ base, Mf ⟨P, w, K, mg, base⟩ hnd "do" "Hand.do" s_Hand_do)
    (m_Hand_nudge : ∀ base, Mf ⟨P, w, K, mg, base⟩ hnd "nudge" "Hand.nudge" s_Hand_nudge)
    (m_Hand_came : ∀ base, Mf ⟨P, w, K, mg, base⟩ hnd "came" "Hand.came" s_Hand_came)
    (m_Hand_own_taken : ∀ base, Mf ⟨P, w, K, mg, base⟩ hnd "own_taken" "Hand.own_taken" s_Hand_own_taken)
    (m_Hand_others_taken : ∀ base, Mf ⟨P, w, K, mg, base⟩ hnd "others_taken" "Hand.others_taken" s_Hand_others_taken)
    : ∃ fd : FuncData, (∀ (s : Shared) (v : Value), BindsTo s fd ⟨[v], []⟩ [("_law_script", v)]) ∧ ∀ base : Heap, K.In base → base.Ns mainGlobals mg → RunG ⟨P, w, K, mg, base⟩ 10 fa fd ["_law_script"] (sp_law K) := by
  have gg := fun {x : Str} {v : Value} (e : PySem.W.nsIn K mainGlobals x = some (some v)) => PySem.W.mg_of X G e
  have gz := fun {x : Str} (e : PySem.W.nsIn K mainGlobals x = some none) => PySem.W.mg_none_of X G e
  refine law_end (A := ⟨ink, text, change, fit, place, side, mark, node, cursor, deed, letter, gone, hand, note, rdr, srv, hnd⟩) X G hfa a l c k fun base => ?_
  have T : Txt ⟨P, w, K, mg, base⟩ ⟨ink, text, change, fit, place, side, mark, node, cursor, deed, letter, gone, hand, note, rdr, srv, hnd⟩ := { zlen := gz zlen, zisi := gz zisi, zall := gz zall, zsum := gz zsum, zmin := gz zmin, zmax := gz zmax, zint := gz zint, zstr := gz zstr, zbool := gz zbool, zlist := gz zlist, ztuple := gz ztuple, zrange := gz zrange, zrepr := gz zrepr, zve := gz zve, signs := signs, most := most, xmc := xmc, ink := gg g_ink, text := ⟨gg g_text, x_text.q, x_text.k, x_text.s, x_text.t⟩, change := ⟨gg g_change, x_change.q, x_change.k, x_change.s, x_change.t⟩, fit := ⟨gg g_fit, x_fit.q, x_fit.k, x_fit.s, x_fit.t⟩, letter := ⟨gg g_letter, x_letter.q, x_letter.k, x_letter.s, x_letter.t⟩, gone := ⟨gg g_gone, x_gone.q, x_gone.k, x_gone.s, x_gone.t⟩, hand := ⟨gg g_hand, x_hand.q, x_hand.k, x_hand.s, x_hand.t⟩, xmi := xi_cons x_text.i (xi_cons x_change.i (xi_cons x_fit.i (xi_cons x_letter.i (xi_cons x_gone.i (xi_cons x_hand.i (xi_nil)))))), rdr := ⟨gg g_rdr, ⟨o_rdr.pg, o_rdr.hd, o_rdr.po, o_rdr.sa⟩, n_rdr, o_rdr.mi, o_rdr.kp⟩, srv := ⟨gg g_srv, ⟨o_srv.pg, o_srv.hd, o_srv.po, o_srv.sa⟩, n_srv, o_srv.mi, o_srv.kp⟩, hnd := ⟨gg g_hnd, ⟨o_hnd.pg, o_hnd.hd, o_hnd.po, o_hnd.sa⟩, n_hnd, o_hnd.mi, o_hnd.kp⟩, d_is_whole := d_is_whole base, d_is_text := d_is_text base, d_need_text := d_need_text base, d_is_part := d_is_part base, d_need_change := d_need_change base, d_size_of := d_size_of base, d_sizes := d_sizes base, d_run_of := d_run_of base, d_with_keep := d_with_keep base, d_neat := d_neat base, d_done := d_done base, d_put_past := d_put_past base, d_signs_past := d_signs_past base, d_passed := d_passed base, d_is_change := d_is_change base, d_is_number := d_is_number base, d_is_ask := d_is_ask base, d_is_again := d_is_again base, d_is_took := d_is_took base, d_copied := d_copied base, d_w_cell_at := d_w_cell_at base, d_w_server_refused := d_w_server_refused base, d_w_hand_refused := d_w_hand_refused base, d_w_made_refused := d_w_made_refused base, d_w_number_refused := d_w_number_refused base, d_w_change_refused := d_w_change_refused base, d_w_no_change := d_w_no_change base, d_w_no_ask := d_w_no_ask base, d_w_no_took := d_w_no_took base, d_w_unfit := d_w_unfit base, d_w_taken := d_w_taken base, d_w_first_refused := d_w_first_refused base, d_w_others_refused := d_w_others_refused base, d_w_cut := d_w_cut base, d_w_goes_on := d_w_goes_on base, d_w_own_comes := d_w_own_comes base, d_w_early := d_w_early base, d_w_later := d_w_later base, d_w_letter_comes := d_w_letter_comes base, m_Reader_init := m_Reader_init base, m_Reader_word := m_Reader_word base, m_Reader_next_size := m_Reader_next_size base, m_Reader_cut_off := m_Reader_cut_off base, m_Server_init := m_Server_init base, m_Server_text := m_Server_text base, m_Server_many := m_Server_many base, m_Server_change := m_Server_change base, m_Server_took := m_Server_took base, m_Server_came := m_Server_came base, m_Server_take := m_Server_take base, m_Hand_init := m_Hand_init base, m_Hand_text := m_Hand_text base, m_Hand_seen := m_Hand_seen base, m_Hand_flight := m_Hand_flight base, m_Hand_asked := m_Hand_asked base, m_Hand_flies := m_Hand_flies base, m_Hand_do := m_Hand_do base, m_Hand_nudge := m_Hand_nudge base, m_Hand_came := m_Hand_came base, m_Hand_own_taken := m_Hand_own_taken base, m_Hand_others_taken := m_Hand_others_taken base }
  refine { T := T, gnm := fun j hj => match j, hj with | 0, _ => gg g_text | 1, _ => gg g_change | 2, _ => gg g_fit | 3, _ => gg g_place | 4, _ => gg g_side | 5, _ => gg g_mark | 6, _ => gg g_node | 7, _ => gg g_cursor | 8, _ => gg g_deed | 9, _ => gg g_letter | 10, _ => gg g_gone | 11, _ => gg g_hand | 12, _ => gg g_note, d_word := d_w_word base, d_all := d_w_all base, text := ⟨x_text.e, fun j hj => match j, hj with | 0, _ => k_text.k0 | 1, _ => k_text.k1 | 2, _ => k_text.k2 | 3, _ => k_text.k3 | 4, _ => k_text.k4 | 5, _ => k_text.k5 | 6, _ => k_text.k6 | 7, _ => k_text.k7 | 8, _ => k_text.k8 | 9, _ => k_text.k9 | 10, _ => k_text.k10 | 11, _ => k_text.k11 | 12, _ => k_text.k12, x_text.o, x_text.v⟩, change := ⟨x_change.e, fun j hj => match j, hj with | 0, _ => k_change.k0 | 1, _ => k_change.k1 | 2, _ => k_change.k2 | 3, _ => k_change.k3 | 4, _ => k_change.k4 | 5, _ => k_change.k5 | 6, _ => k_change.k6 | 7, _ => k_change.k7 | 8, _ => k_change.k8 | 9, _ => k_change.k9 | 10, _ => k_change.k10 | 11, _ => k_change.k11 | 12, _ => k_change.k12, x_change.o, x_change.v⟩, fit := ⟨x_fit.e, fun j hj => match j, hj with | 0, _ => k_fit.k0 | 1, _ => k_fit.k1 | 2, _ => k_fit.k2 | 3, _ => k_fit.k3 | 4, _ => k_fit.k4 | 5, _ => k_fit.k5 | 6, _ => k_fit.k6 | 7, _ => k_fit.k7 | 8, _ => k_fit.k8 | 9, _ => k_fit.k9 | 10, _ => k_fit.k10 | 11, _ => k_fit.k11 | 12, _ => k_fit.k12, x_fit.o, x_fit.v⟩, letter := ⟨x_letter.e, fun j hj => match j, hj with | 0, _ => k_letter.k0 | 1, _ => k_letter.k1 | 2, _ => k_letter.k2 | 3, _ => k_letter.k3 | 4, _ => k_letter.k4 | 5, _ => k_letter.k5 | 6, _ => k_letter.k6 | 7, _ => k_letter.k7 | 8, _ => k_letter.k8 | 9, _ => k_letter.k9 | 10, _ => k_letter.k10 | 11, _ => k_letter.k11 | 12, _ => k_letter.k12, x_letter.o, x_letter.v⟩, gone := ⟨x_gone.e, fun j hj => match j, hj with | 0, _ => k_gone.k0 | 1, _ => k_gone.k1 | 2, _ => k_gone.k2 | 3, _ => k_gone.k3 | 4, _ => k_gone.k4 | 5, _ => k_gone.k5 | 6, _ => k_gone.k6 | 7, _ => k_gone.k7 | 8, _ => k_gone.k8 | 9, _ => k_gone.k9 | 10, _ => k_gone.k10 | 11, _ => k_gone.k11 | 12, _ => k_gone.k12, x_gone.o, x_gone.v⟩, hand := ⟨x_hand.e, fun j hj => match j, hj with | 0, _ => k_hand.k0 | 1, _ => k_hand.k1 | 2, _ => k_hand.k2 | 3, _ => k_hand.k3 | 4, _ => k_hand.k4 | 5, _ => k_hand.k5 | 6, _ => k_hand.k6 | 7, _ => k_hand.k7 | 8, _ => k_hand.k8 | 9, _ => k_hand.k9 | 10, _ => k_hand.k10 | 11, _ => k_hand.k11 | 12, _ => k_hand.k12, x_hand.o, x_hand.v⟩ }
end
end Ink
/-! InkHd -/
section
set_option maxHeartbeats 0
open PySem PySem.W PyProof.Rows
open_top ink_hd for PySem.Challenge.rw_inkloom_k39_letters_refused
end
/-! Ink44 -/
section
set_option maxHeartbeats 0
open PySem PySem.W PyProof.Rows L2
theorem PySem.Challenge.cw_inkloom_k39_letters_refused_holds : PySem.Challenge.rw_inkloom_k39_letters_refused.Holds := by
  refine ink_hd ?_
  k_fill
  refine Ink.walkG (l := PySem.Challenge.rw_inkloom_k39_letters_refused) (n := 63) (k := 10) (x := "_law_script") rfl (by decide) rfl ⟨rfl, by decide, by decide⟩ (fun w h Y => PySem.W.kIn_of Y) ?F
  case F =>
    intro w mg fa h KX G hmg
    refine' Ink.ink_all KX G hmg ?a ?l ?c ?k ?g_ink ?g_text ?g_change ?g_fit ?g_place ?g_side ?g_mark ?g_node ?g_cursor ?g_deed ?g_letter ?g_gone ?g_hand ?g_note ?g_rdr ?g_srv ?g_hnd ?zlen ?zisi ?zall ?zsum ?zmin ?zmax ?zint ?zstr ?zbool ?zlist ?ztuple ?zrange ?zrepr ?zve ?signs ?most ?xmc ?x_text ?k_text ?x_change ?k_change ?x_fit ?k_fit ?x_letter ?k_letter ?x_gone ?k_gone ?x_hand ?k_hand ?o_rdr ?n_rdr ?o_srv ?n_srv ?o_hnd ?n_hnd ?d_is_whole ?d_is_text ?d_need_text ?d_is_part ?d_need_change ?d_size_of ?d_sizes ?d_run_of ?d_with_keep ?d_neat ?d_done ?d_put_past ?d_signs_past ?d_passed ?d_is_change ?d_is_number ?d_is_ask ?d_is_again ?d_is_took ?d_copied ?d_w_cell_at ?d_w_server_refused ?d_w_hand_refused ?d_w_made_refused ?d_w_number_refused ?d_w_change_refused ?d_w_no_change ?d_w_no_ask ?d_w_no_took ?d_w_unfit ?d_w_taken ?d_w_first_refused ?d_w_others_refused ?d_w_cut ?d_w_goes_on ?d_w_own_comes ?d_w_early ?d_w_later ?d_w_letter_comes ?d_w_word ?d_w_all ?m_Reader_init ?m_Reader_word ?m_Reader_next_size ?m_Reader_cut_off ?m_Server_init ?m_Server_text ?m_Server_many ?m_Server_change ?m_Server_took ?m_Server_came ?m_Server_take ?m_Hand_init ?m_Hand_text ?m_Hand_seen ?m_Hand_flight ?m_Hand_asked ?m_Hand_flies ?m_Hand_do ?m_Hand_nudge ?m_Hand_came ?m_Hand_own_taken ?m_Hand_others_taken
    (case a => k_is)
    (case l => k_is)
    (case c => k_is)
    (case k => k_is)
    (case g_ink => k_is)
    (case g_text => k_is)
    (case g_change => k_is)
    (case g_fit => k_is)
    (case g_place => k_is)
    (case g_side => k_is)
    (case g_mark => k_is)
    (case g_node => k_is)
    (case g_cursor => k_is)
    (case g_deed => k_is)
    (case g_letter => k_is)
    (case g_gone => k_is)
    (case g_hand => k_is)
    (case g_note => k_is)
    (case g_rdr => k_is)
    (case g_srv => k_is)
    (case g_hnd => k_is)
    (case zlen => k_is)
    (case zisi => k_is)
    (case zall => k_is)
    (case zsum => k_is)
    (case zmin => k_is)
    (case zmax => k_is)
    (case zint => k_is)
    (case zstr => k_is)
    (case zbool => k_is)
    (case zlist => k_is)
    (case ztuple => k_is)
    (case zrange => k_is)
    (case zrepr => k_is)
    (case zve => k_is)
    (case xmc => kts_exm)
    (case signs => refine' Ink.sg_mk KX G ?a ?e; (case a => k_is); (case e => rfl))
    (case most => refine' Ink.ms_mk KX G ?a ?e; (case a => k_is); (case e => rfl))
    case x_text =>
      refine' ⟨?q, ?k, ?s, ?t, ⟨?e1, ?e2, ?e3, ?e4, ?e5, ?e6, ?e7, ?e8⟩, ?i, ?o, ?v⟩
      (case q => first | k_exc | k_is)
      (case k => k_is)
      (case s => k_is)
      (case t => k_is)
      (case e1 => k_is)
      (case e2 => k_is)
      (case e3 => k_is)
      (case e4 => k_is)
      (case e5 => k_is)
      (case e6 => k_is)
      (case e7 => k_is)
      (case e8 => k_is)
      (case i => kts_exm)
      (case o => kit_is)
      (case v => kit_is)
    case k_text =>
      refine' ⟨?k0, ?k1, ?k2, ?k3, ?k4, ?k5, ?k6, ?k7, ?k8, ?k9, ?k10, ?k11, ?k12⟩
      (case k0 => kit_is)
      (case k1 => kit_is)
      (case k2 => kit_is)
      (case k3 => kit_is)
      (case k4 => kit_is)
      (case k5 => kit_is)
      (case k6 => kit_is)
      (case k7 => kit_is)
      (case k8 => kit_is)
      (case k9 => kit_is)
      (case k10 => kit_is)
      (case k11 => kit_is)
      (case k12 => kit_is)
    case x_change =>
      refine' ⟨?q, ?k, ?s, ?t, ⟨?e1, ?e2, ?e3, ?e4, ?e5, ?e6, ?e7, ?e8⟩, ?i, ?o, ?v⟩
      (case q => first | k_exc | k_is)
      (case k => k_is)
      (case s => k_is)
      (case t => k_is)
      (case e1 => k_is)
      (case e2 => k_is)
      (case e3 => k_is)
      (case e4 => k_is)
      (case e5 => k_is)
      (case e6 => k_is)
      (case e7 => k_is)
      (case e8 => k_is)
      (case i => kts_exm)
      (case o => kit_is)
      (case v => kit_is)
    case k_change =>
      refine' ⟨?k0, ?k1, ?k2, ?k3, ?k4, ?k5, ?k6, ?k7, ?k8, ?k9, ?k10, ?k11, ?k12⟩
      (case k0 => kit_is)
      (case k1 => kit_is)
      (case k2 => kit_is)
      (case k3 => kit_is)
      (case k4 => kit_is)
      (case k5 => kit_is)
      (case k6 => kit_is)
      (case k7 => kit_is)
      (case k8 => kit_is)
      (case k9 => kit_is)
      (case k10 => kit_is)
      (case k11 => kit_is)
      (case k12 => kit_is)
    case x_fit =>
      refine' ⟨?q, ?k, ?s, ?t, ⟨?e1, ?e2, ?e3, ?e4, ?e5, ?e6, ?e7, ?e8⟩, ?i, ?o, ?v⟩
      (case q => first | k_exc | k_is)
      (case k => k_is)
      (case s => k_is)
      (case t => k_is)
      (case e1 => k_is)
      (case e2 => k_is)
      (case e3 => k_is)
      (case e4 => k_is)
      (case e5 => k_is)
      (case e6 => k_is)
      (case e7 => k_is)
      (case e8 => k_is)
      (case i => kts_exm)
      (case o => kit_is)
      (case v => kit_is)
    case k_fit =>
      refine' ⟨?k0, ?k1, ?k2, ?k3, ?k4, ?k5, ?k6, ?k7, ?k8, ?k9, ?k10, ?k11, ?k12⟩
      (case k0 => kit_is)
      (case k1 => kit_is)
      (case k2 => kit_is)
      (case k3 => kit_is)
      (case k4 => kit_is)
      (case k5 => kit_is)
      (case k6 => kit_is)
      (case k7 => kit_is)
      (case k8 => kit_is)
      (case k9 => kit_is)
      (case k10 => kit_is)
      (case k11 => kit_is)
      (case k12 => kit_is)
    case x_letter =>
      refine' ⟨?q, ?k, ?s, ?t, ⟨?e1, ?e2, ?e3, ?e4, ?e5, ?e6, ?e7, ?e8⟩, ?i, ?o, ?v⟩
      (case q => first | k_exc | k_is)
      (case k => k_is)
      (case s => k_is)
      (case t => k_is)
      (case e1 => k_is)
      (case e2 => k_is)
      (case e3 => k_is)
      (case e4 => k_is)
      (case e5 => k_is)
      (case e6 => k_is)
      (case e7 => k_is)
      (case e8 => k_is)
      (case i => kts_exm)
      (case o => kit_is)
      (case v => kit_is)
    case k_letter =>
      refine' ⟨?k0, ?k1, ?k2, ?k3, ?k4, ?k5, ?k6, ?k7, ?k8, ?k9, ?k10, ?k11, ?k12⟩
      (case k0 => kit_is)
      (case k1 => kit_is)
      (case k2 => kit_is)
      (case k3 => kit_is)
      (case k4 => kit_is)
      (case k5 => kit_is)
      (case k6 => kit_is)
      (case k7 => kit_is)
      (case k8 => kit_is)
      (case k9 => kit_is)
      (case k10 => kit_is)
      (case k11 => kit_is)
      (case k12 => kit_is)
    case x_gone =>
      refine' ⟨?q, ?k, ?s, ?t, ⟨?e1, ?e2, ?e3, ?e4, ?e5, ?e6, ?e7, ?e8⟩, ?i, ?o, ?v⟩
      (case q => first | k_exc | k_is)
      (case k => k_is)
      (case s => k_is)
      (case t => k_is)
      (case e1 => k_is)
      (case e2 => k_is)
      (case e3 => k_is)
      (case e4 => k_is)
      (case e5 => k_is)
      (case e6 => k_is)
      (case e7 => k_is)
      (case e8 => k_is)
      (case i => kts_exm)
      (case o => kit_is)
      (case v => kit_is)
    case k_gone =>
      refine' ⟨?k0, ?k1, ?k2, ?k3, ?k4, ?k5, ?k6, ?k7, ?k8, ?k9, ?k10, ?k11, ?k12⟩
      (case k0 => kit_is)
      (case k1 => kit_is)
      (case k2 => kit_is)
      (case k3 => kit_is)
      (case k4 => kit_is)
      (case k5 => kit_is)
      (case k6 => kit_is)
      (case k7 => kit_is)
      (case k8 => kit_is)
      (case k9 => kit_is)
      (case k10 => kit_is)
      (case k11 => kit_is)
      (case k12 => kit_is)
    case x_hand =>
      refine' ⟨?q, ?k, ?s, ?t, ⟨?e1, ?e2, ?e3, ?e4, ?e5, ?e6, ?e7, ?e8⟩, ?i, ?o, ?v⟩
      (case q => first | k_exc | k_is)
      (case k => k_is)
      (case s => k_is)
      (case t => k_is)
      (case e1 => k_is)
      (case e2 => k_is)
      (case e3 => k_is)
      (case e4 => k_is)
      (case e5 => k_is)
      (case e6 => k_is)
      (case e7 => k_is)
      (case e8 => k_is)
      (case i => kts_exm)
      (case o => kit_is)
      (case v => kit_is)
    case k_hand =>
      refine' ⟨?k0, ?k1, ?k2, ?k3, ?k4, ?k5, ?k6, ?k7, ?k8, ?k9, ?k10, ?k11, ?k12⟩
      (case k0 => kit_is)
      (case k1 => kit_is)
      (case k2 => kit_is)
      (case k3 => kit_is)
      (case k4 => kit_is)
      (case k5 => kit_is)
      (case k6 => kit_is)
      (case k7 => kit_is)
      (case k8 => kit_is)
      (case k9 => kit_is)
      (case k10 => kit_is)
      (case k11 => kit_is)
      (case k12 => kit_is)
    case o_rdr =>
      refine' ⟨?pg, ?hd, ?po, ?sa, ?mk, ?kp⟩
      (case pg => k_is)
      (case hd => k_is)
      (case po => k_is)
      (case sa => k_is)
      (case mk => k_is)
      (case kp => k_is)
    case n_rdr =>
      refine' Ink.nf_cons ?f0 (Ink.nf_nil)
      (case f0 => k_is)
    case o_srv =>
      refine' ⟨?pg, ?hd, ?po, ?sa, ?mk, ?kp⟩
      (case pg => k_is)
      (case hd => k_is)
      (case po => k_is)
      (case sa => k_is)
      (case mk => k_is)
      (case kp => k_is)
    case n_srv =>
      refine' Ink.nf_cons ?f0 (Ink.nf_cons ?f1 (Ink.nf_cons ?f2 (Ink.nf_nil)))
      (case f0 => k_is)
      (case f1 => k_is)
      (case f2 => k_is)
    case o_hnd =>
      refine' ⟨?pg, ?hd, ?po, ?sa, ?mk, ?kp⟩
      (case pg => k_is)
      (case hd => k_is)
      (case po => k_is)
      (case sa => k_is)
      (case mk => k_is)
      (case kp => k_is)
    case n_hnd =>
      refine' Ink.nf_cons ?f0 (Ink.nf_cons ?f1 (Ink.nf_cons ?f2 (Ink.nf_cons ?f3 (Ink.nf_cons ?f4 (Ink.nf_cons ?f5 (Ink.nf_cons ?f6 (Ink.nf_nil)))))))
      (case f0 => k_is)
      (case f1 => k_is)
      (case f2 => k_is)
      (case f3 => k_is)
      (case f4 => k_is)
      (case f5 => k_is)
      (case f6 => k_is)
    case d_is_whole =>
      intro base
      refine' Ink.df_mk KX G ?a ?l ?c ?k
      (case a => k_is)
      (case l => k_is)
      (case c => k_is)
      (case k => k_is)
    case d_is_text =>
      intro base
      refine' Ink.df_mk KX G ?a ?l ?c ?k
      (case a => k_is)
      (case l => k_is)
      (case c => k_is)
      (case k => k_is)
    case d_need_text =>
      intro base
      refine' Ink.df_mk KX G ?a ?l ?c ?k
      (case a => k_is)
      (case l => k_is)
      (case c => k_is)
      (case k => k_is)
    case d_is_part =>
      intro base
      refine' Ink.df_mk KX G ?a ?l ?c ?k
      (case a => k_is)
      (case l => k_is)
      (case c => k_is)
      (case k => k_is)
    case d_need_change =>
      intro base
      refine' Ink.df_mk KX G ?a ?l ?c ?k
      (case a => k_is)
      (case l => k_is)
      (case c => k_is)
      (case k => k_is)
    case d_size_of =>
      intro base
      refine' Ink.df_mk KX G ?a ?l ?c ?k
      (case a => k_is)
      (case l => k_is)
      (case c => k_is)
      (case k => k_is)
    case d_sizes =>
      intro base
      refine' Ink.df_mk KX G ?a ?l ?c ?k
      (case a => k_is)
      (case l => k_is)
      (case c => k_is)
      (case k => k_is)
    case d_run_of =>
      intro base
      refine' Ink.df_mk KX G ?a ?l ?c ?k
      (case a => k_is)
      (case l => k_is)
      (case c => k_is)
      (case k => k_is)
    case d_with_keep =>
      intro base
      refine' Ink.df_mk KX G ?a ?l ?c ?k
      (case a => k_is)
      (case l => k_is)
      (case c => k_is)
      (case k => k_is)
    case d_neat =>
      intro base
      refine' Ink.df_mk KX G ?a ?l ?c ?k
      (case a => k_is)
      (case l => k_is)
      (case c => k_is)
      (case k => k_is)
    case d_done =>
      intro base
      refine' Ink.df_mk KX G ?a ?l ?c ?k
      (case a => k_is)
      (case l => k_is)
      (case c => k_is)
      (case k => k_is)
    case d_put_past =>
      intro base
      refine' Ink.df_mk KX G ?a ?l ?c ?k
      (case a => k_is)
      (case l => k_is)
      (case c => k_is)
      (case k => k_is)
    case d_signs_past =>
      intro base
      refine' Ink.df_mk KX G ?a ?l ?c ?k
      (case a => k_is)
      (case l => k_is)
      (case c => k_is)
      (case k => k_is)
    case d_passed =>
      intro base
      refine' Ink.df_mk KX G ?a ?l ?c ?k
      (case a => k_is)
      (case l => k_is)
      (case c => k_is)
      (case k => k_is)
    case d_is_change =>
      intro base
      refine' Ink.df_mk KX G ?a ?l ?c ?k
      (case a => k_is)
      (case l => k_is)
      (case c => k_is)
      (case k => k_is)
    case d_is_number =>
      intro base
      refine' Ink.df_mk KX G ?a ?l ?c ?k
      (case a => k_is)
      (case l => k_is)
      (case c => k_is)
      (case k => k_is)
    case d_is_ask =>
      intro base
      refine' Ink.df_mk KX G ?a ?l ?c ?k
      (case a => k_is)
      (case l => k_is)
      (case c => k_is)
      (case k => k_is)
    case d_is_again =>
      intro base
      refine' Ink.df_mk KX G ?a ?l ?c ?k
      (case a => k_is)
      (case l => k_is)
      (case c => k_is)
      (case k => k_is)
    case d_is_took =>
      intro base
      refine' Ink.df_mk KX G ?a ?l ?c ?k
      (case a => k_is)
      (case l => k_is)
      (case c => k_is)
      (case k => k_is)
    case d_copied =>
      intro base
      refine' Ink.df_mk KX G ?a ?l ?c ?k
      (case a => k_is)
      (case l => k_is)
      (case c => k_is)
      (case k => k_is)
    case d_w_cell_at =>
      intro base
      refine' Ink.df_mk KX G ?a ?l ?c ?k
      (case a => k_is)
      (case l => k_is)
      (case c => k_is)
      (case k => k_is)
    case d_w_server_refused =>
      intro base
      refine' Ink.df_mk KX G ?a ?l ?c ?k
      (case a => k_is)
      (case l => k_is)
      (case c => k_is)
      (case k => k_is)
    case d_w_hand_refused =>
      intro base
      refine' Ink.df_mk KX G ?a ?l ?c ?k
      (case a => k_is)
      (case l => k_is)
      (case c => k_is)
      (case k => k_is)
    case d_w_made_refused =>
      intro base
      refine' Ink.df_mk KX G ?a ?l ?c ?k
      (case a => k_is)
      (case l => k_is)
      (case c => k_is)
      (case k => k_is)
    case d_w_number_refused =>
      intro base
      refine' Ink.df_mk KX G ?a ?l ?c ?k
      (case a => k_is)
      (case l => k_is)
      (case c => k_is)
      (case k => k_is)
    case d_w_change_refused =>
      intro base
      refine' Ink.df_mk KX G ?a ?l ?c ?k
      (case a => k_is)
      (case l => k_is)
      (case c => k_is)
      (case k => k_is)
    case d_w_no_change =>
      intro base
      refine' Ink.df_mk KX G ?a ?l ?c ?k
      (case a => k_is)
      (case l => k_is)
      (case c => k_is)
      (case k => k_is)
    case d_w_no_ask =>
      intro base
      refine' Ink.df_mk KX G ?a ?l ?c ?k
      (case a => k_is)
      (case l => k_is)
      (case c => k_is)
      (case k => k_is)
    case d_w_no_took =>
      intro base
      refine' Ink.df_mk KX G ?a ?l ?c ?k
      (case a => k_is)
      (case l => k_is)
      (case c => k_is)
      (case k => k_is)
    case d_w_unfit =>
      intro base
      refine' Ink.df_mk KX G ?a ?l ?c ?k
      (case a => k_is)
      (case l => k_is)
      (case c => k_is)
      (case k => k_is)
    case d_w_taken =>
      intro base
      refine' Ink.df_mk KX G ?a ?l ?c ?k
      (case a => k_is)
      (case l => k_is)
      (case c => k_is)
      (case k => k_is)
    case d_w_first_refused =>
      intro base
      refine' Ink.df_mk KX G ?a ?l ?c ?k
      (case a => k_is)
      (case l => k_is)
      (case c => k_is)
      (case k => k_is)
    case d_w_others_refused =>
      intro base
      refine' Ink.df_mk KX G ?a ?l ?c ?k
      (case a => k_is)
      (case l => k_is)
      (case c => k_is)
      (case k => k_is)
    case d_w_cut =>
      intro base
      refine' Ink.df_mk KX G ?a ?l ?c ?k
      (case a => k_is)
      (case l => k_is)
      (case c => k_is)
      (case k => k_is)
    case d_w_goes_on =>
      intro base
      refine' Ink.df_mk KX G ?a ?l ?c ?k
      (case a => k_is)
      (case l => k_is)
      (case c => k_is)
      (case k => k_is)
    case d_w_own_comes =>
      intro base
      refine' Ink.df_mk KX G ?a ?l ?c ?k
      (case a => k_is)
      (case l => k_is)
      (case c => k_is)
      (case k => k_is)
    case d_w_early =>
      intro base
      refine' Ink.df_mk KX G ?a ?l ?c ?k
      (case a => k_is)
      (case l => k_is)
      (case c => k_is)
      (case k => k_is)
    case d_w_later =>
      intro base
      refine' Ink.df_mk KX G ?a ?l ?c ?k
      (case a => k_is)
      (case l => k_is)
      (case c => k_is)
      (case k => k_is)
    case d_w_letter_comes =>
      intro base
      refine' Ink.df_mk KX G ?a ?l ?c ?k
      (case a => k_is)
      (case l => k_is)
      (case c => k_is)
      (case k => k_is)
    case d_w_word =>
      intro base
      refine' Ink.df_mk KX G ?a ?l ?c ?k
      (case a => k_is)
      (case l => k_is)
      (case c => k_is)
      (case k => k_is)
    case d_w_all =>
      intro base
      refine' Ink.df_mk KX G ?a ?l ?c ?k
      (case a => k_is)
      (case l => k_is)
      (case c => k_is)
      (case k => k_is)
    case m_Reader_init =>
      intro base
      refine' Ink.mf_mk ?a ?i ?l ?c ?k
      (case a => k_is)
      (case i => k_is)
      (case l => k_is)
      (case c => k_is)
      (case k => k_is)
    case m_Reader_word =>
      intro base
      refine' Ink.mf_mk ?a ?i ?l ?c ?k
      (case a => k_is)
      (case i => k_is)
      (case l => k_is)
      (case c => k_is)
      (case k => k_is)
    case m_Reader_next_size =>
      intro base
      refine' Ink.mf_mk ?a ?i ?l ?c ?k
      (case a => k_is)
      (case i => k_is)
      (case l => k_is)
      (case c => k_is)
      (case k => k_is)
    case m_Reader_cut_off =>
      intro base
      refine' Ink.mf_mk ?a ?i ?l ?c ?k
      (case a => k_is)
      (case i => k_is)
      (case l => k_is)
      (case c => k_is)
      (case k => k_is)
    case m_Server_init =>
      intro base
      refine' Ink.mf_mk ?a ?i ?l ?c ?k
      (case a => k_is)
      (case i => k_is)
      (case l => k_is)
      (case c => k_is)
      (case k => k_is)
    case m_Server_text =>
      intro base
      refine' Ink.mf_mk ?a ?i ?l ?c ?k
      (case a => k_is)
      (case i => k_is)
      (case l => k_is)
      (case c => k_is)
      (case k => k_is)
    case m_Server_many =>
      intro base
      refine' Ink.mf_mk ?a ?i ?l ?c ?k
      (case a => k_is)
      (case i => k_is)
      (case l => k_is)
      (case c => k_is)
      (case k => k_is)
    case m_Server_change =>
      intro base
      refine' Ink.mf_mk ?a ?i ?l ?c ?k
      (case a => k_is)
      (case i => k_is)
      (case l => k_is)
      (case c => k_is)
      (case k => k_is)
    case m_Server_took =>
      intro base
      refine' Ink.mf_mk ?a ?i ?l ?c ?k
      (case a => k_is)
      (case i => k_is)
      (case l => k_is)
      (case c => k_is)
      (case k => k_is)
    case m_Server_came =>
      intro base
      refine' Ink.mf_mk ?a ?i ?l ?c ?k
      (case a => k_is)
      (case i => k_is)
      (case l => k_is)
      (case c => k_is)
      (case k => k_is)
    case m_Server_take =>
      intro base
      refine' Ink.mf_mk ?a ?i ?l ?c ?k
      (case a => k_is)
      (case i => k_is)
      (case l => k_is)
      (case c => k_is)
      (case k => k_is)
    case m_Hand_init =>
      intro base
      refine' Ink.mf_mk ?a ?i ?l ?c ?k
      (case a => k_is)
      (case i => k_is)
      (case l => k_is)
      (case c => k_is)
      (case k => k_is)
    case m_Hand_text =>
      intro base
      refine' Ink.mf_mk ?a ?i ?l ?c ?k
      (case a => k_is)
      (case i => k_is)
      (case l => k_is)
      (case c => k_is)
      (case k => k_is)
    case m_Hand_seen =>
      intro base
      refine' Ink.mf_mk ?a ?i ?l ?c ?k
      (case a => k_is)
      (case i => k_is)
      (case l => k_is)
      (case c => k_is)
      (case k => k_is)
    case m_Hand_flight =>
      intro base
      refine' Ink.mf_mk ?a ?i ?l ?c ?k
      (case a => k_is)
      (case i => k_is)
      (case l => k_is)
      (case c => k_is)
      (case k => k_is)
    case m_Hand_asked =>
      intro base
      refine' Ink.mf_mk ?a ?i ?l ?c ?k
      (case a => k_is)
      (case i => k_is)
      (case l => k_is)
      (case c => k_is)
      (case k => k_is)
    case m_Hand_flies =>
      intro base
      refine' Ink.mf_mk ?a ?i ?l ?c ?k
      (case a => k_is)
      (case i => k_is)
      (case l => k_is)
      (case c => k_is)
      (case k => k_is)
    case m_Hand_do =>
      intro base
      refine' Ink.mf_mk ?a ?i ?l ?c ?k
      (case a => k_is)
      (case i => k_is)
      (case l => k_is)
      (case c => k_is)
      (case k => k_is)
    case m_Hand_nudge =>
      intro base
      refine' Ink.mf_mk ?a ?i ?l ?c ?k
      (case a => k_is)
      (case i => k_is)
      (case l => k_is)
      (case c => k_is)
      (case k => k_is)
    case m_Hand_came =>
      intro base
      refine' Ink.mf_mk ?a ?i ?l ?c ?k
      (case a => k_is)
      (case i => k_is)
      (case l => k_is)
      (case c => k_is)
      (case k => k_is)
    case m_Hand_own_taken =>
      intro base
      refine' Ink.mf_mk ?a ?i ?l ?c ?k
      (case a => k_is)
      (case i => k_is)
      (case l => k_is)
      (case c => k_is)
      (case k => k_is)
    case m_Hand_others_taken =>
      intro base
      refine' Ink.mf_mk ?a ?i ?l ?c ?k
      (case a => k_is)
      (case i => k_is)
      (case l => k_is)
      (case c => k_is)
      (case k => k_is)
end
