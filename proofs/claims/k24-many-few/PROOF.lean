import PyProof.Rows.All
import Wide.All
import OpenK.AllK
import Wide.FinOn
import HandS.ForMost
import HandS.Strs
import HandS.SetFor
import HandS.TupSets
import KE.SortData
import KE.KSortTupG
import KE.KDictKeyed
import KE.KeyNested
import KE.KDictLaw
import HandS.IsInst
import HandS.TupAny
import HandS.Walk
import HandS.Zip
import HandS.CallLocal
import KE.GoesEnum
import KE.GoesMore
import HandS.Codes
import PySem.Challenge.RW_flankturns_k24_whole_many_against_few
set_option Elab.async false
set_option maxRecDepth 100000
/-! The plain law: ready cells as lists, paths as lists, by tables that the kernel checks. -/
namespace FT
def lft (n k : Nat) : Nat := (k + n - 1) % n
def rgt (n k : Nat) : Nat := (k + 1) % n
def rm (n : Nat) (R : List Nat) (k : Nat) : List Nat := R.filter fun j => !(Nat.beq j (lft n k) || Nat.beq j k || Nat.beq j (rgt n k))
def pick (b : Bool) (x y : Nat) : Nat := if b then (if Nat.ble x y then y else x) else (if Nat.ble x y then x else y)
def optv (b : Bool) : List Nat → Nat
  | [] => 0
  | x :: r => r.foldl (pick b) x
def mask (R : List Nat) : Nat := R.foldr (fun k a => 2 ^ k + a) 0
def at4 (t i : Nat) : Nat := (t >>> (4 * i)) % 16

def tf1 : Nat := 16
def tt1 : Nat := 16
def tf2 : Nat := 4368
def tt2 : Nat := 4368
def tf3 : Nat := 286331152
def tt3 : Nat := 286331152
def tf4 : Nat := 2382705542366826768
def tt4 : Nat := 2459284328486605072
def tf5 : Nat := 45365788612387755020130297163345367312
def tt5 : Nat := 45370982176896965633924012665007575312
def tf6 : Nat := 22675950782014474829921282308771878306167087850801153224074556379109819224336
def tt6 : Nat := 15919644964641354046106451202396061909806453040909383530853848822881393381648
def tf7 : Nat := 2681356945993555415010501030254661960319645981005451896885670212693549580421567013411157812833249739928839512958715450015385104283575343878158003877253392
def tt7 : Nat := 2681561582866770857242543364385584234689024755378002922866387666094656151746802688204062112138246991443463145744854026895938519737362655874265880543170832
def tf8 : Nat := 47189444748279987444010207135895305657950475185583248090203203913208694781909379281533646613307125785684070069073501459648946479567703417618655518330748897043134565285264469369826970608730354995875881287723044710120579577872232699008270973758419824897968559816194491493064525675334249534004066781394366435600
def tt8 : Nat := 35953873412342608709898826928788324671612155782439507709841159814485298611334630442842271562246628482182360844472549942188230034406093940235431351050102164991839749566147162594812486033075110621930004892596338600330496089866762646174384568752639154147899896657667527980957340513344809654300778140658818945296
def tf9 : Nat := 8617375039360028481642776265888706517711282126014987248214368027879365097326035413718166393990632807965433187639532415065093640827413140163889220477171682791390408771861019899952766705391234978180039721669927536107120085393608617784210292035827689612630076812868757406163819990706578783876775427812327553430123249174892491385953500220506334747063615674401916401207748831958213168231133795070460949814157682774875672033695420011497717055423322256875398473743054684907567531930404137635477906712178498369818862751627037302608061427781666222744913672531945659101767873069209096325771609744591193163341182557208570827024
def tt9 : Nat := 8617375039389535890759056968969563955799978844764894545087351292131967240347666540624819867761296271772131515580124052137893840941344973103939884780098385644960359647439617970546392195485980348065290203391164969324659104748098061408653491898979000935374282359145629581403662922836007922920505357621102424447752872392125794529649342537559139943193588414041321132638884407146383489079530414667767727297120592989669699581409845423963683119634848238470835980848379189758883518441555363308794420460604123995565576588684234649266499897671651943824367081281643246259827270349509139855891908451483753544766565761276457324816
def tf10 : Nat := 278503701467008265337617918473761657482360880604014355125602317722133337502257555319410263743413595362760332286178997340796832197283627233116981454214864247581271808572791050120769385544451471280914794315839108511991518152703737567873937473521932584282155305108958094462881354158738138131426214890458400755400408128608137016664120146622789634719812530050953118448930675809573585612904084873117803680426823938733913298492779880778561082163309340263293324212671573330140813985168733564473184481542545492644147835295633988672055925340229446935770967586685661175347603531028509725075371034298437283064681780691803107666959460021721448510242401597204397769216403851534699358050261808072763025174800470657528881942681564578096685249028598087394153464373637116676281456017581730052665398183398054657586204579102239847318860291399899019419444139827208836860460511103082376334639428642335825883264946443807662628295187142410944429988375166617404052379182474336562045090228629951119541516062520190453349461124743901618376712260077762925007979868199847831124144269166749310545733524332330878128972925790136309083021283193437482671052833826403991741888060856469138987428681707566269169788386561609239921328636569482714821013166940415161375199504
def tt10 : Nat := 278503701467008265337618785759832542780916505262131050165937864380781106420359027306773215302895719288134032958163808524859930714103548363500224514960276701603589509515968472276895178800904601413687041963949744865934649650080210777626606483885641685088352884675749473509446706740948587954697326486111721251526648900515076257993390422655652880425249152881914997257648891158135336894958311024232748474367766179023936576939488369858171665879773224158212242842556991060055831259471446840558643866087961213236053951266320334477693242607095828683003944372002638097859700492319478523330636459195471561459171408284898744325281930110884493266505596803998399506871554547948959881948227281506844054419140081206447598953816252542579586647417047186391879837520241378164321815872689501131659702977031061277411696042597892804112131582133464359340293729947439964876507048633165238633005568568017762352504642791354239253630450863635009117853760582674430182043149073700027358225470116743311294058292904420551161376915484455344784506395169629339368887366262656215177391819569646156093489510169491075933310579813435520687870810246525031657007182877766807111054373301064891890857926892129783237789627611022610678196591237282376671713264057803771037683984
def tf11 : Nat := 359037992988441574923798684539210004427209154577536624630757752976491679755918385614702096789174285266960231486210701898596104534205625887029407073159187174052805151411510071018413290097348074154389475934716094433223135255158040921527686974837277536847888689898868796976012665834554044636057595994669172991570824633562834971043213396809580241319282410839893039721295316873737448541778218319252894365224502984424714400834623167277097127414516111940824707269881722176852388858127024171210265410321940316269794128426456954882283657642788113903364995726984727746062637642368077413221463275988470933962768573260642371748136951125932624336011890333011993899457245905879295176778503992668280033726138728487487321451567219772677621029979837368465003450554510368919726085691425143170563986736537246109960100831459501813982341031601484447276902813413923162042180031921033330548268767643197883399369501941043212698995642267251128782811734147609627197732018539921633267058499535801223418677524400219593281355713645631882350484822374932405830874884683032657155117835567136793021767002283845822841650070142424275288182085415840661431725231720176272127255936067787442378635634751428220847677556352380729361696497987558490298447045778710367035786718602204783570109949389360652030690949904048861029484829757810637450164863026940024824346111196099175086064439169062216940558882298305394120595823266364833685505762534139230797713807647136925278254277096389139647162741823085164884570969897826401782187876985752640301894646603528313622352628372941028182275383842111631168979496746457169290502675421788108116384063159404645904560411439318239469304064773296709953825456707792990943734445352751966823089038066730822102251187464465460650002441729122567604601159682264578454021788634462545244952461606123123618697960139654244691073649627529750530381449675762870020864631159129050372225600158756862521473618571588679097294946870151227538109832515154145981813547088402839182661664116516837171006345520302625817850080338102704863877265683875774494248836297017196554391230012378962983044411319055956875015477083460387802024767382295277115650577260444988523946602361036751247136038583851144597716537132832502824728724511213839179192540846756245844209596088076698739160610124303149186454253504131217496174553571257646608879776653469318331080667286179369400412644127957745428292318991426349930135158175135623063537722166012936160781480333247500904960540141893701426234700491125494649839365254091024
def tt11 : Nat := 363566064059107710012529965271213962979853283229964752214271558747511271313842777358921002147707314493553489175375163480784107743229743004929507924418489139485726160290155428275016361378791111326081808458385604248637051253028142491847739404165726556947102389543245889660659588782755486145558215725557190221558918917141910892572312035174182011605975237447655766801018408062613533579849245802730183782482362955649519776757168435285666068083151495739187590819300406071398879617190354421520598405213340656850994713428362510129158635836365794032868595320969513928658365734932778880514475683015810421205875152587415394492310592563760084511954078380635912223980454440516748626779088023383533199725245277229528420670718528197775524693551114467249891808646937512122051808563073950600388833835409811196100780662946385058750010560667784444503570395092207131238364054350084757653060217250259158726976322662604533551117414190548655390658302546403921103612363872449794740000281629030472289632925299057178589196606526178400719760131914923614484595920370052589770070835267730206785578551430793415738793792370662321686445000718140687373095670949425964215662227668432372982225869329933261436169626312001105967097734258758064344680649297654255005164951124552683227527576841671222802358812477101751403358499970899136737775461661918014422476154760579941582090509965546575356629704947837257271386480196592886056413341198222050340110484129826732677309896253665239459413278918189066869394597582454380660196893617023360768961158111508378854835766272829445819519403161866967352671714735094082431337208626193823492016510374188745880798684279055130559451650358570258770065988807478741528303729392152273641622406132419752936233309731529832941419674368320312612240050537460947968058200333608770336288976136795104668857352754939291076569700072023084969671328382314697401094028515798522224090339714127536756622938727959364028477274570226126199708436767715114486616197837395810547803454089731907473921961599366528286021984780373427479630320457857213574595411856228620403750623714053385420956606302276728541611826897688858298489771656384417672639223940454647599437428908780271235013848127055948871852793544130514168214366973276241550093695963045526018671499811097861440377409875853939623527147923789314254662195550663494924148606490591812941959928100012823459845842592212155475465242131330315821475677313167989480863243140576732925911319534626280859289527607484232293655428865881100041746205816983824
def tb : Nat → Bool → Nat
  | 1, b => if b then tt1 else tf1
  | 2, b => if b then tt2 else tf2
  | 3, b => if b then tt3 else tf3
  | 4, b => if b then tt4 else tf4
  | 5, b => if b then tt5 else tf5
  | 6, b => if b then tt6 else tf6
  | 7, b => if b then tt7 else tf7
  | 8, b => if b then tt8 else tf8
  | 9, b => if b then tt9 else tf9
  | 10, b => if b then tt10 else tf10
  | 11, b => if b then tt11 else tf11
  | _, _ => 0
def tv (n : Nat) (R : List Nat) (b : Bool) : Nat := at4 (tb n b) (mask R)
def wt : Nat → Nat
  | 1 => 1
  | 2 => 6
  | 3 => 20
  | 4 => 36
  | 5 => 53
  | 6 => 29
  | 7 => 44
  | 8 => 15
  | 9 => 11
  | 10 => 17
  | _ => 0
def vf : Nat := 587135645693458307006188129273199755910972099381680209318359858812626124635525343737816669056687961126744592
def vtt : Nat := 733919557116822883749280666572533321999687380999902140681092698447788511038768631192106669193008631560548880
def wsum (P : List Nat) : Nat := P.foldr (fun m a => wt m + a) 0
def VT (P : List Nat) (b : Bool) : Nat := at4 (if b then vtt else vf) (wsum P)
/-! all sublists of a range; all compositions -/
def allSub : Nat → List Nat → (List Nat → Bool) → Bool
  | 0, acc, f => f acc
  | k + 1, acc, f => allSub k acc f && allSub k (k :: acc) f
theorem allSub_of (f : List Nat → Bool) (p : Nat → Bool) : ∀ (n : Nat) (acc : List Nat), allSub n acc f = true → f ((List.range n).filter p ++ acc) = true
  | 0, acc, h => h
  | n + 1, acc, h => by
    have h' : (allSub n acc f && allSub n (n :: acc) f) = true := h
    rw [Bool.and_eq_true] at h'
    rw [List.range_succ, List.filter_append]
    by_cases q : p n = true
    · have e : List.filter p [n] = [n] := by simp [q]
      rw [e, List.append_assoc]
      exact allSub_of f p n (n :: acc) h'.2
    · have e : List.filter p [n] = [] := by simp [q]
      rw [e, List.append_nil]
      exact allSub_of f p n acc h'.1
/-- the paths that may stand together -/
def csum (P : List Nat) : Nat := P.foldr (fun m a => m + 1 + a) 0
def allC : Nat → Nat → List Nat → (List Nat → Bool) → Bool
  | 0, _, acc, f => f acc
  | u + 1, bud, acc, f => f acc && (List.range bud).all fun i => Nat.ble bud (i + 1) || allC u (bud - (i + 2)) ((i + 1) :: acc) f
theorem allC_here {u bud : Nat} {acc : List Nat} {f : List Nat → Bool} (h : allC u bud acc f = true) : f acc = true := by
  cases u with
  | zero => exact h
  | succ u =>
    have h' : (f acc && _) = true := h
    rw [Bool.and_eq_true] at h'
    exact h'.1
theorem allC_of (f : List Nat → Bool) : ∀ (P acc : List Nat) (u bud : Nat), allC u bud acc f = true → bud ≤ u → (∀ m ∈ P, 1 ≤ m) → csum P ≤ bud → f (P.reverse ++ acc) = true
  | [], acc, u, bud, h, _, _, _ => allC_here h
  | m :: P, acc, u, bud, h, hu, hm, hs => by
    have m1 : 1 ≤ m := hm m List.mem_cons_self
    have s1 : m + 1 + csum P ≤ bud := hs
    obtain ⟨i, rfl⟩ : ∃ i, m = i + 1 := ⟨m - 1, by omega⟩
    cases u with
    | zero => omega
    | succ u =>
      have h' : (f acc && (List.range bud).all fun i => Nat.ble bud (i + 1) || allC u (bud - (i + 2)) ((i + 1) :: acc) f) = true := h
      rw [Bool.and_eq_true] at h'
      have h2 := List.all_eq_true.mp h'.2 i (List.mem_range.mpr (by omega))
      rw [Bool.or_eq_true] at h2
      rcases h2 with h2 | h2
      · have := Nat.le_of_ble_eq_true h2
        omega
      · have q := allC_of f P ((i + 1) :: acc) u _ h2 (by omega) (fun x hx => hm x (List.mem_cons_of_mem _ hx)) (by omega)
        rw [List.reverse_cons, List.append_assoc]
        exact q

/-! sums do not hang on the order -/
theorem foldr_perm {g : Nat → Nat} {P Q : List Nat} (h : P.Perm Q) : P.foldr (fun m a => g m + a) 0 = Q.foldr (fun m a => g m + a) 0 := by
  induction h with
  | nil => rfl
  | cons x _ ih => simp only [List.foldr_cons]; rw [ih]
  | swap x y l => simp only [List.foldr_cons]; omega
  | trans _ _ h1 h2 => exact h1.trans h2
theorem csum_perm {P Q : List Nat} (h : P.Perm Q) : csum P = csum Q := foldr_perm (g := fun m => m + 1) h
theorem VT_perm {P Q : List Nat} (h : P.Perm Q) (b : Bool) : VT P b = VT Q b := by
  unfold VT wsum
  rw [foldr_perm (g := wt) h]

/-! the least, the greatest -/
theorem pick_or (b : Bool) (x y : Nat) : pick b x y = x ∨ pick b x y = y := by
  unfold pick
  cases b <;> simp only [Bool.false_eq_true, if_false, if_true] <;> split <;> simp
theorem fold_mem (b : Bool) : ∀ (l : List Nat) (x : Nat), l.foldl (pick b) x ∈ x :: l
  | [], x => by simp
  | y :: r, x => by
    have h := fold_mem b r (pick b x y)
    rw [List.foldl_cons]
    rcases List.mem_cons.mp h with h | h
    · rw [h]
      rcases pick_or b x y with q | q <;> rw [q] <;> simp
    · simp [h]
theorem fold_max : ∀ (l : List Nat) (x : Nat), ∀ y ∈ x :: l, y ≤ l.foldl (pick true) x
  | [], x, y, h => by simp at h; simp [h]
  | z :: r, x, y, h => by
    rw [List.foldl_cons]
    have q := fold_max r (pick true x z)
    have h0 := q _ List.mem_cons_self
    have p : x ≤ pick true x z ∧ z ≤ pick true x z := by
      unfold pick
      simp only [if_true]
      split
      · rename_i c
        exact ⟨Nat.le_of_ble_eq_true c, Nat.le_refl _⟩
      · rename_i c
        have : ¬ x ≤ z := fun w => c (Nat.ble_eq_true_of_le w)
        exact ⟨Nat.le_refl _, by omega⟩
    rcases List.mem_cons.mp h with rfl | h
    · exact Nat.le_trans p.1 h0
    · rcases List.mem_cons.mp h with rfl | h
      · exact Nat.le_trans p.2 h0
      · exact q y (List.mem_cons_of_mem _ h)
theorem fold_min : ∀ (l : List Nat) (x : Nat), ∀ y ∈ x :: l, l.foldl (pick false) x ≤ y
  | [], x, y, h => by simp at h; simp [h]
  | z :: r, x, y, h => by
    rw [List.foldl_cons]
    have q := fold_min r (pick false x z)
    have h0 := q _ List.mem_cons_self
    have p : pick false x z ≤ x ∧ pick false x z ≤ z := by
      unfold pick
      simp only [Bool.false_eq_true, if_false]
      split
      · rename_i c
        exact ⟨Nat.le_refl _, Nat.le_of_ble_eq_true c⟩
      · rename_i c
        have : ¬ x ≤ z := fun w => c (Nat.ble_eq_true_of_le w)
        exact ⟨by omega, Nat.le_refl _⟩
    rcases List.mem_cons.mp h with rfl | h
    · exact Nat.le_trans h0 p.1
    · rcases List.mem_cons.mp h with rfl | h
      · exact Nat.le_trans h0 p.2
      · exact q y (List.mem_cons_of_mem _ h)
theorem optv_mem (b : Bool) {l : List Nat} (h : l ≠ []) : optv b l ∈ l := by
  cases l with
  | nil => exact absurd rfl h
  | cons x r => exact fold_mem b r x
/-- what is in the list and not less than any of it -/
theorem optv_max {l : List Nat} {m : Nat} (hm : m ∈ l) (h : ∀ x ∈ l, x ≤ m) : optv true l = m := by
  cases l with
  | nil => exact absurd hm (by simp)
  | cons x r =>
    have a := fold_max r x m hm
    have b := h _ (fold_mem true r x)
    exact Nat.le_antisymm b a
theorem optv_min {l : List Nat} {m : Nat} (hm : m ∈ l) (h : ∀ x ∈ l, m ≤ x) : optv false l = m := by
  cases l with
  | nil => exact absurd hm (by simp)
  | cons x r =>
    have a := fold_min r x m hm
    have b := h _ (fold_mem false r x)
    exact Nat.le_antisymm a b
theorem optv_same {b : Bool} {l l' : List Nat} (h : ∀ x, x ∈ l ↔ x ∈ l') : optv b l = optv b l' := by
  by_cases e : l' = []
  · subst e
    have : l = [] := by
      cases l with
      | nil => rfl
      | cons x r => exact absurd ((h x).mp List.mem_cons_self) (by simp)
    rw [this]
  · have m := optv_mem b e
    have m' := (h _).mpr m
    have ne : l ≠ [] := List.ne_nil_of_mem m'
    cases b with
    | true =>
      refine optv_max m' fun x hx => ?_
      cases l' with
      | nil => exact absurd rfl e
      | cons z r => exact fold_max r z x ((h x).mp hx)
    | false =>
      refine optv_min m' fun x hx => ?_
      cases l' with
      | nil => exact absurd rfl e
      | cons z r => exact fold_min r z x ((h x).mp hx)

/-! runs of ready cells -/
def memB (R : List Nat) (k : Nat) : Bool := match R with
  | [] => false
  | x :: r => Nat.beq k x || memB r k
theorem memB_iff (k : Nat) : ∀ R : List Nat, memB R k = true ↔ k ∈ R
  | [] => by simp [memB]
  | x :: r => by
    have := memB_iff k r
    simp only [memB, Bool.or_eq_true, this, List.mem_cons]
    constructor
    · rintro (h | h)
      · exact .inl (Nat.eq_of_beq_eq_true h)
      · exact .inr h
    · rintro (h | h)
      · exact .inl (by rw [h]; exact Nat.beq_refl _)
      · exact .inr h
def runL (n : Nat) (R : List Nat) : Nat → Nat → Nat
  | 0, _ => 0
  | f + 1, k => if memB R k then runL n R f (rgt n k) + 1 else 0
def starts (n : Nat) (R : List Nat) : List Nat := R.filter fun k => !memB R (lft n k)
def lens (n : Nat) (R : List Nat) : List Nat := (starts n R).map (runL n R n)
/-- paths one turn further, not sorted -/
def fresh (c m : Nat) : List Nat := (if Nat.ble 2 c then [c - 1] else []) ++ (if Nat.ble (c + 3) m then [m - c - 2] else [])
def nxAt (P : List Nat) (at' : Nat) : List (List Nat) := (List.range (P.getD at' 0)).map fun c => (P.take at' ++ P.drop (at' + 1)) ++ fresh c (P.getD at' 0)
def nx (P : List Nat) : List (List Nat) := (List.range P.length).flatMap (nxAt P)

/-! the numbers of sets -/
def addP : List Nat → List Nat → List Nat
  | [], b => b
  | a, [] => a
  | x :: a, y :: b => (x + y) :: addP a b
def pe : Nat → List Nat
  | 0 => [1]
  | 1 => [0, 1]
  | 2 => [0, 2]
  | k + 3 => addP (0 :: pe (k + 1)) (0 :: pe k)
def re : Nat → List Nat
  | 0 => []
  | 1 => []
  | 2 => []
  | 3 => [0, 3]
  | 4 => [0, 0, 2]
  | 5 => [0, 0, 5]
  | k + 6 => addP (0 :: re (k + 4)) (0 :: re (k + 3))
def mulRow (k a : Nat) : List Nat → Nat → List Nat → List Nat
  | [], _, f => f
  | y :: r, j, f => mulRow k a r (j + 1) (f.set (k + j) (f.getD (k + j) 0 + a * y))
def mulGo (b : List Nat) : List Nat → Nat → List Nat → List Nat
  | [], _, f => f
  | x :: r, k, f => mulGo b r (k + 1) (mulRow k x b 0 f)
def mulP (a b : List Nat) : List Nat := mulGo b a 0 (List.replicate (a.length + b.length - 1) 0)
def byP (P : List Nat) : List Nat := P.foldl (fun f m => mulP f (pe m)) [1]
def posAt (l : List Nat) : List Nat := (List.range l.length).filter fun k => !Nat.beq (l.getD k 0) 0
def trimR : List Nat → List Nat
  | [] => []
  | x :: r => if Nat.beq x 0 then trimR r else x :: r
def trimL (l : List Nat) : List Nat := (trimR l.reverse).reverse
def within (l : List Nat) (v : Nat) : Bool := match posAt l with
  | [] => false
  | f :: _ => Nat.ble f v && Nat.ble (v + 1) (trimL l).length

/-! what the kernel checks -/
def bb : List Bool := [false, true]
def turnOk (n : Nat) (R : List Nat) : Bool := match R with
  | [] => bb.all fun b => Nat.beq (tv n R b) 0
  | _ => bb.all fun b => Nat.beq (tv n R b) (optv b (R.map fun k => 1 + tv n (rm n R k) (!b)))
def lensOk (n : Nat) (R : List Nat) : Bool :=
  if Nat.beq R.length n then Nat.ble n 3 || bb.all fun b => Nat.beq (tv n R b) (1 + VT [n - 3] (!b)) && within (re n) (tv n R b)
  else (let P := lens n R; bb.all (fun b => Nat.beq (tv n R b) (VT P b)) && P.all (fun m => Nat.ble 1 m) && Nat.ble (csum P) n)
def pathsOk (P : List Nat) : Bool := match P with
  | [] => bb.all fun b => Nat.beq (VT P b) 0
  | _ => bb.all (fun b => Nat.beq (VT P b) (optv b ((nx P).map fun Q => 1 + VT Q (!b)))) && (nx P).all (fun Q => Q.all (fun m => Nat.ble 1 m) && Nat.ble (csum Q + 1) (csum P))
def betweenOk (P : List Nat) : Bool := bb.all fun b => within (byP P) (VT P b)
set_option maxRecDepth 100000
theorem turn_1 : allSub 1 [] (turnOk 1) = true := by decide +kernel
theorem turn_2 : allSub 2 [] (turnOk 2) = true := by decide +kernel
theorem turn_3 : allSub 3 [] (turnOk 3) = true := by decide +kernel
theorem turn_4 : allSub 4 [] (turnOk 4) = true := by decide +kernel
theorem turn_5 : allSub 5 [] (turnOk 5) = true := by decide +kernel
theorem turn_6 : allSub 6 [] (turnOk 6) = true := by decide +kernel
theorem turn_7 : allSub 7 [] (turnOk 7) = true := by decide +kernel
theorem turn_8 : allSub 8 [] (turnOk 8) = true := by decide +kernel
theorem turn_9 : allSub 9 [] (turnOk 9) = true := by decide +kernel
theorem turn_10 : allSub 10 [] (turnOk 10) = true := by decide +kernel
theorem turn_11 : allSub 11 [] (turnOk 11) = true := by decide +kernel
theorem lens_1 : allSub 1 [] (lensOk 1) = true := by decide +kernel
theorem lens_2 : allSub 2 [] (lensOk 2) = true := by decide +kernel
theorem lens_3 : allSub 3 [] (lensOk 3) = true := by decide +kernel
theorem lens_4 : allSub 4 [] (lensOk 4) = true := by decide +kernel
theorem lens_5 : allSub 5 [] (lensOk 5) = true := by decide +kernel
theorem lens_6 : allSub 6 [] (lensOk 6) = true := by decide +kernel
theorem lens_7 : allSub 7 [] (lensOk 7) = true := by decide +kernel
theorem lens_8 : allSub 8 [] (lensOk 8) = true := by decide +kernel
theorem lens_9 : allSub 9 [] (lensOk 9) = true := by decide +kernel
theorem lens_10 : allSub 10 [] (lensOk 10) = true := by decide +kernel
theorem lens_11 : allSub 11 [] (lensOk 11) = true := by decide +kernel
theorem paths_all : allC 11 11 [] pathsOk = true := by decide +kernel
theorem between_all : allC 11 11 [] betweenOk = true := by decide +kernel

/-- the ready cells are some of 0 .. n - 1 -/
def Sub (n : Nat) (R : List Nat) : Prop := ∃ p : Nat → Bool, R = (List.range n).filter p
theorem Sub.lt {n : Nat} {R : List Nat} (h : Sub n R) {k : Nat} (hk : k ∈ R) : k < n := by
  obtain ⟨p, rfl⟩ := h
  exact List.mem_range.mp (List.mem_filter.mp hk).1
theorem Sub.rm {n : Nat} {R : List Nat} (h : Sub n R) (k : Nat) : Sub n (FT.rm n R k) := by
  obtain ⟨p, rfl⟩ := h
  exact ⟨fun j => (!(Nat.beq j (lft n k) || Nat.beq j k || Nat.beq j (rgt n k))) && p j, by unfold FT.rm; rw [List.filter_filter]⟩
theorem turn_at {n : Nat} (h1 : 1 ≤ n) (h2 : n ≤ 11) : allSub n [] (turnOk n) = true := by
  match n, h1, h2 with
  | 1, _, _ => exact turn_1
  | 2, _, _ => exact turn_2
  | 3, _, _ => exact turn_3
  | 4, _, _ => exact turn_4
  | 5, _, _ => exact turn_5
  | 6, _, _ => exact turn_6
  | 7, _, _ => exact turn_7
  | 8, _, _ => exact turn_8
  | 9, _, _ => exact turn_9
  | 10, _, _ => exact turn_10
  | 11, _, _ => exact turn_11
theorem lens_at {n : Nat} (h1 : 1 ≤ n) (h2 : n ≤ 11) : allSub n [] (lensOk n) = true := by
  match n, h1, h2 with
  | 1, _, _ => exact lens_1
  | 2, _, _ => exact lens_2
  | 3, _, _ => exact lens_3
  | 4, _, _ => exact lens_4
  | 5, _, _ => exact lens_5
  | 6, _, _ => exact lens_6
  | 7, _, _ => exact lens_7
  | 8, _, _ => exact lens_8
  | 9, _, _ => exact lens_9
  | 10, _, _ => exact lens_10
  | 11, _, _ => exact lens_11
theorem Sub.all {n : Nat} {R : List Nat} (h : Sub n R) {f : List Nat → Bool} (hf : allSub n [] f = true) : f R = true := by
  obtain ⟨p, rfl⟩ := h
  have := allSub_of f p n [] hf
  rwa [List.append_nil] at this
theorem bb_all {f : Bool → Bool} (h : bb.all f = true) (b : Bool) : f b = true := by
  have h' : (f false && (f true && true)) = true := h
  cases b <;> revert h' <;> cases f false <;> cases f true <;> simp
theorem tv_nil {n : Nat} (h1 : 1 ≤ n) (h2 : n ≤ 11) (b : Bool) : tv n [] b = 0 := by
  have h : turnOk n [] = true := Sub.all (R := []) ⟨fun _ => false, by simp⟩ (turn_at h1 h2)
  exact Nat.eq_of_beq_eq_true (bb_all (f := fun b => Nat.beq (tv n [] b) 0) h b)
theorem tv_turn {n : Nat} {R : List Nat} (h1 : 1 ≤ n) (h2 : n ≤ 11) (hR : Sub n R) (hne : R ≠ []) (b : Bool) : tv n R b = optv b (R.map fun k => 1 + tv n (rm n R k) (!b)) := by
  have h := hR.all (turn_at h1 h2)
  cases R with
  | nil => exact absurd rfl hne
  | cons x r => exact Nat.eq_of_beq_eq_true (bb_all (f := fun b => Nat.beq (tv n (x :: r) b) (optv b ((x :: r).map fun k => 1 + tv n (rm n (x :: r) k) (!b)))) h b)
/-- paths that may stand together -/
structure Al (P : List Nat) : Prop where
  pos : ∀ m ∈ P, 1 ≤ m
  sum : csum P ≤ 11
theorem Al.perm {P Q : List Nat} (h : P.Perm Q) (a : Al P) : Al Q := ⟨fun m hm => a.pos m (h.mem_iff.mpr hm), by rw [← csum_perm h]; exact a.sum⟩
theorem Al.all {P : List Nat} (a : Al P) {f : List Nat → Bool} (h : allC 11 11 [] f = true) : f P = true := by
  have a' : Al P.reverse := a.perm (List.reverse_perm P).symm
  have := allC_of f P.reverse [] 11 11 h (Nat.le_refl _) a'.pos a'.sum
  rwa [List.reverse_reverse, List.append_nil] at this
theorem all_ge {P : List Nat} (h : P.all (fun m => Nat.ble 1 m) = true) : ∀ m ∈ P, 1 ≤ m := fun m hm => Nat.le_of_ble_eq_true (List.all_eq_true.mp h m hm)
theorem tv_lens {n : Nat} {R : List Nat} (h1 : 1 ≤ n) (h2 : n ≤ 11) (hR : Sub n R) (hf : R.length ≠ n) : (∀ b, tv n R b = VT (lens n R) b) ∧ Al (lens n R) := by
  have h := hR.all (lens_at h1 h2)
  unfold lensOk at h
  have hb : Nat.beq R.length n = false := by
    cases e : Nat.beq R.length n with
    | false => rfl
    | true => exact absurd (Nat.eq_of_beq_eq_true e) hf
  rw [hb] at h
  simp only [Bool.false_eq_true, if_false, Bool.and_eq_true] at h
  obtain ⟨⟨a, b⟩, c⟩ := h
  exact ⟨fun x => Nat.eq_of_beq_eq_true (bb_all (f := fun b => Nat.beq (tv n R b) (VT (lens n R) b)) a x), all_ge b, by have := Nat.le_of_ble_eq_true c; omega⟩
theorem tv_full {n : Nat} {R : List Nat} (h1 : 4 ≤ n) (h2 : n ≤ 11) (hR : Sub n R) (hf : R.length = n) (b : Bool) : tv n R b = 1 + VT [n - 3] (!b) ∧ within (re n) (tv n R b) = true := by
  have h := hR.all (lens_at (by omega) h2)
  unfold lensOk at h
  have hb : Nat.beq R.length n = true := by rw [hf]; exact Nat.beq_refl _
  rw [hb] at h
  simp only [if_true, Bool.or_eq_true] at h
  rcases h with h | h
  · have := Nat.le_of_ble_eq_true h
    omega
  · have h' := bb_all h b
    rw [Bool.and_eq_true] at h'
    exact ⟨Nat.eq_of_beq_eq_true h'.1, h'.2⟩
theorem VT_nil (b : Bool) : VT [] b = 0 := by cases b <;> decide +kernel
theorem VT_turn {P : List Nat} (a : Al P) (hne : P ≠ []) : (∀ b, VT P b = optv b ((nx P).map fun Q => 1 + VT Q (!b))) ∧ ∀ Q ∈ nx P, Al Q ∧ csum Q < csum P := by
  have h := a.all paths_all
  cases P with
  | nil => exact absurd rfl hne
  | cons x r =>
    have h' : (bb.all (fun b => Nat.beq (VT (x :: r) b) (optv b ((nx (x :: r)).map fun Q => 1 + VT Q (!b)))) && (nx (x :: r)).all (fun Q => Q.all (fun m => Nat.ble 1 m) && Nat.ble (csum Q + 1) (csum (x :: r)))) = true := h
    rw [Bool.and_eq_true] at h'
    refine ⟨fun b => Nat.eq_of_beq_eq_true (bb_all (f := fun b => Nat.beq (VT (x :: r) b) (optv b ((nx (x :: r)).map fun Q => 1 + VT Q (!b)))) h'.1 b), fun Q hQ => ?_⟩
    have q := List.all_eq_true.mp h'.2 Q hQ
    rw [Bool.and_eq_true] at q
    have l := Nat.le_of_ble_eq_true q.2
    have s := a.sum
    exact ⟨⟨all_ge q.1, by omega⟩, by omega⟩
theorem VT_between {P : List Nat} (a : Al P) (b : Bool) : within (byP P) (VT P b) = true := bb_all (a.all between_all) b
theorem within_says {l : List Nat} {v : Nat} (h : within l v = true) : ∃ f r, posAt l = f :: r ∧ f ≤ v ∧ v + 1 ≤ (trimL l).length := by
  unfold within at h
  split at h
  · exact absurd h (by simp)
  · rename_i f r e
    rw [Bool.and_eq_true] at h
    exact ⟨f, r, e, Nat.le_of_ble_eq_true h.1, Nat.le_of_ble_eq_true h.2⟩

/-! colours -/
theorem lft_eq {n k : Nat} (h : k < n) : lft n k = if k = 0 then n - 1 else k - 1 := by
  unfold lft
  split
  · rename_i e
    subst e
    rw [Nat.zero_add]
    exact Nat.mod_eq_of_lt (by omega)
  · have e : k + n - 1 = (k - 1) + n := by omega
    rw [e, Nat.add_mod_right]
    exact Nat.mod_eq_of_lt (by omega)
theorem rgt_eq {n k : Nat} (h : k < n) : rgt n k = if k + 1 = n then 0 else k + 1 := by
  unfold rgt
  split
  · rename_i e
    rw [e]
    exact Nat.mod_self n
  · exact Nat.mod_eq_of_lt (by omega)
theorem lft_lt {n k : Nat} (h : k < n) : lft n k < n := Nat.mod_lt _ (by omega)
theorem rgt_lt {n k : Nat} (h : k < n) : rgt n k < n := Nat.mod_lt _ (by omega)
def flk (n : Nat) (cs : List Nat) (k : Nat) : Bool := decide (cs.getD (lft n k) 0 = cs.getD (rgt n k) 0) && !decide (cs.getD (rgt n k) 0 = cs.getD k 0)
def hld (n : Nat) (held : List Nat) (ring : Bool) (k : Nat) : Bool := decide (k ∈ held) || (!ring && (decide (k = 0) || decide (k = n - 1)))
def rdy (n : Nat) (held : List Nat) (ring : Bool) (cs : List Nat) : List Nat := (List.range n).filter fun k => !hld n held ring k && flk n cs k
theorem rdy_sub (n : Nat) (held : List Nat) (ring : Bool) (cs : List Nat) : Sub n (rdy n held ring cs) := ⟨_, rfl⟩
theorem rdy_mem {n : Nat} {held : List Nat} {ring : Bool} {cs : List Nat} {k : Nat} : k ∈ rdy n held ring cs ↔ k < n ∧ hld n held ring k = false ∧ flk n cs k = true := by
  unfold rdy
  rw [List.mem_filter, List.mem_range, Bool.and_eq_true, Bool.not_eq_true']
theorem getD_set {cs : List Nat} {k j c : Nat} (hk : k < cs.length) : (cs.set k c).getD j 0 = if j = k then c else cs.getD j 0 := by
  rw [List.getD_eq_getElem?_getD, List.getD_eq_getElem?_getD, List.getElem?_set]
  by_cases e : j = k
  · subst e
    simp [hk]
  · rw [if_neg e, if_neg (fun q => e q.symm)]
theorem rdy_turn {n : Nat} {held : List Nat} {ring : Bool} {cs : List Nat} {k : Nat} (hn : 3 ≤ n) (hl : cs.length = n) (hk : k ∈ rdy n held ring cs) :
    rdy n held ring (cs.set k (cs.getD (lft n k) 0)) = rm n (rdy n held ring cs) k := by
  obtain ⟨k1, k2, k3⟩ := rdy_mem.mp hk
  unfold flk at k3
  rw [Bool.and_eq_true, decide_eq_true_eq, Bool.not_eq_true', decide_eq_false_iff_not] at k3
  unfold rdy rm
  rw [List.filter_filter]
  refine List.filter_congr fun j hj => ?_
  have j1 : j < n := List.mem_range.mp hj
  have kl : k < cs.length := by omega
  have L1 := lft_eq k1
  have R1 := rgt_eq k1
  have L2 := lft_eq j1
  have R2 := rgt_eq j1
  have L0 := lft_lt k1
  have R0 := rgt_lt k1
  unfold flk
  rw [getD_set kl, getD_set kl, getD_set kl]
  by_cases e1 : j = k
  · subst e1
    have a : lft n j ≠ j := by rw [L1]; split <;> omega
    have b : rgt n j ≠ j := by rw [R1]; split <;> omega
    rw [if_neg a, if_neg b, if_pos rfl]
    simp
    intro _ q
    exact q.symm
  · by_cases e2 : j = lft n k
    · have b : rgt n j = k := by rw [R2, e2, L1]; split <;> split <;> omega
      have c : j ≠ k := e1
      rw [if_pos b, if_neg e1]
      simp [e2]
    · by_cases e3 : j = rgt n k
      · have b : lft n j = k := by rw [L2, e3, R1]; split <;> split <;> omega
        rw [if_pos b, if_neg e1]
        have c : cs.getD j 0 = cs.getD (lft n k) 0 := by rw [e3, ← k3.1]
        rw [c]
        have z : (decide (cs.getD (lft n k) 0 = if rgt n j = k then cs.getD (lft n k) 0 else cs.getD (rgt n j) 0) && !decide ((if rgt n j = k then cs.getD (lft n k) 0 else cs.getD (rgt n j) 0) = cs.getD (lft n k) 0)) = false := by
          by_cases q : cs.getD (lft n k) 0 = if rgt n j = k then cs.getD (lft n k) 0 else cs.getD (rgt n j) 0
          · rw [← q]
            simp
          · rw [decide_eq_false q]
            rfl
        rw [z]
        simp [e3]
      · have a : lft n j ≠ k := by
          rw [L2]
          rw [R1] at e3
          split <;> (split at e3 <;> omega)
        have b : rgt n j ≠ k := by
          rw [R2]
          rw [L1] at e2
          split <;> (split at e2 <;> omega)
        rw [if_neg a, if_neg b, if_neg e1]
        have z : (Nat.beq j (lft n k) || Nat.beq j k || Nat.beq j (rgt n k)) = false := by
          have f : ∀ {x y : Nat}, x ≠ y → Nat.beq x y = false := fun {x y} h => by
            cases q : Nat.beq x y with
            | false => rfl
            | true => exact absurd (Nat.eq_of_beq_eq_true q) h
          rw [f e1, f e2, f e3]
          rfl
        rw [z]
        rfl
theorem rm_len {n : Nat} {R : List Nat} {k : Nat} (hk : k ∈ R) : (rm n R k).length < R.length := by
  unfold rm
  have hb : (!(Nat.beq k (lft n k) || Nat.beq k k || Nat.beq k (rgt n k))) = false := by simp
  rcases Nat.lt_or_ge (List.filter (fun j => !(Nat.beq j (lft n k) || Nat.beq j k || Nat.beq j (rgt n k))) R).length R.length with h | h
  · exact h
  · have e := List.length_filter_eq_length_iff.mp (Nat.le_antisymm (List.length_filter_le _ _) h) k hk
    simp at e
/-- three cells all round cannot all be ready -/
theorem full_ge {n : Nat} {held : List Nat} {ring : Bool} {cs : List Nat} (hn : 3 ≤ n) (h : (rdy n held ring cs).length = n) : 4 ≤ n := by
  have all : ∀ k, k < n → flk n cs k = true := fun k hk => by
    unfold rdy at h
    have e := List.length_filter_eq_length_iff.mp (h.trans (List.length_range (n := n)).symm) k (List.mem_range.mpr hk)
    rw [Bool.and_eq_true] at e
    exact e.2
  rcases Nat.lt_or_ge n 4 with h4 | h4
  · have e3 : n = 3 := by omega
    subst e3
    have a := all 0 (by omega)
    have b := all 1 (by omega)
    unfold flk at a b
    rw [Bool.and_eq_true, decide_eq_true_eq, Bool.not_eq_true', decide_eq_false_iff_not] at a b
    have l0 : lft 3 0 = 2 := rfl
    have r0 : rgt 3 0 = 1 := rfl
    have l1 : lft 3 1 = 0 := rfl
    have r1 : rgt 3 1 = 2 := rfl
    rw [l0, r0] at a
    rw [l1, r1] at b
    omega
  · exact h4
end FT
set_option Elab.async false
set_option linter.all false
set_option maxRecDepth 100000
set_option maxHeartbeats 4000000
/-! Sets of a list's ints told in their order; sorted lists and sets of tuples of ints, of any length each. -/
namespace FT
open PySem PySem.Spec PyProof.Rows L2
section
variable {P : Program} {w : World} {A : Around} {E : Value → Shared → Prop} {s : Shared}
/-- a new set's object -/
abbrev newSetObj (w : World) : Obj := { cls := .type "set", dict := none, data := .set #[] 0 (.fresh 0 0 (!w.params.followText "set-order")) }
/-- set(xs), xs a list of ints: like call_set_tupI, for lists -/
theorem call_set_lstI {l : Addr} {items : Array Value} (ns : List Int) {Q : Value → Shared → Prop} (hh : A.handled = none) (hl : s.heap.IsList l items) (hit : IntsAre items.toList ns) (hb : ns.length + 1 < scanBound)
    (h : ∀ (h' : Heap) (tk c : Nat), SetR w h' s.heap.objs.size (fun j => decide (j ∈ ns)) c → c ≤ ns.length → (∀ b o, s.heap.get? b = some o → h'.get? b = some o) → Q (.ref s.heap.objs.size) { s with heap := h', toks := tk }) :
    wpAny (model P w) A (call (.type "set") [.ref l]) Q E s := by
  have hisz : items.size = ns.length := by rw [← Array.length_toList]; exact IntsAre.length hit
  obtain ⟨_, _, hmro⟩ := F.called_set.mro
  have hmade := F.called_set.made
  have hsub := F.called_set.sub
  refine wpAny_call (codeAny_of_tree ?_)
  show wpAny _ _ (callAny (.type "set") _) _ _ _
  refine wpAny_pure ⟨Code.quiet_builtin _ (by decide +kernel), codeAny_builtin F.entry_type_call ?_⟩
  rw [Around.under_plain (weight_type_call_type "set" [.ref l] []) rfl]
  have q1 := F.called_set.notType
  have q2 := F.called_set.canCreate
  have q3 := F.typeCall_set_1 (.ref l)
  repeat (any_goals (first | assumption | wp_step))
  have start := code_set_led1 (P := P) (w := w) (A := A.in1) (s := s) (.ref l) (E := E) (Q₁ := fun v z => v = .ref s.heap.objs.size ∧ z = { s with heap := s.heap.push (newSetObj w) }) ⟨rfl, rfl⟩
  refine codeAny_mono start fun r z hr => ?_
  match r, hr with
  | .error _, hr => exact hr
  | .ok .next, hr => exact False.elim hr
  | .ok .brk, hr => exact False.elim hr
  | .ok .cont, hr => exact False.elim hr
  | .ok (.ret v), hr =>
    obtain ⟨ev, ez⟩ := hr
    subst ev ez
    have hS : (s.heap.push (newSetObj w)).get? s.heap.objs.size = some (newSetObj w) := Heap.get?_push_size _ rfl
    have hT : Shared.TypeIs { s with heap := s.heap.push (newSetObj w) } (.ref s.heap.objs.size) "set" := ⟨_, hS, rfl⟩
    have q4 := F.called_set.init.lookup
    have q5 := F.called_set.init.bind (.ref s.heap.objs.size)
    repeat (any_goals (first | assumption | wp_step))
    refine codeAny_mono (codeAny_call_builtin (R := wants (fun v z => v = .none ∧ ∃ h' tk c, z = { s with heap := h', toks := tk } ∧ SetR w h' s.heap.objs.size (fun j => decide (j ∈ ns)) c ∧ c ≤ ns.length ∧
        (∀ b o, s.heap.get? b = some o → h'.get? b = some o)) E) F.called_set.init.plain F.entry_set_init (check_set_init_1 hT ?_)) fun r2 z2 hr2 => ?_
    · obtain ⟨⟨ocls, odict, odata, oslots⟩, hol, hcl, nl, hdl⟩ := hl
      simp only at hcl hdl
      subst hcl hdl
      have hol' : (s.heap.push (newSetObj w)).get? l = some { cls := .type "list", dict := odict, data := .seq items nl, slots := oslots } := Heap.get?_push_of_some _ hol
      have hsls := F.sub_list_set
      have hslf := F.sub_list_frozenset
      have hne : (Value.type "list" == Value.type "dict") = false := by decide
      have hl1 : (s.heap.push (newSetObj w)).IsList l items := ⟨_, hol', rfl, nl, rfl⟩
      unfold Builtin.«set.__init__» noKeywords Builtin.Frozenset.updateFrom
      generalize hPI : pyIter = PI
      wp_walk
      subst hPI
      refine wpAny_pyIter_list hl1 (wpAny_bind (wpAny_runValue ?_))
      have lS : l < s.heap.objs.size := Heap.lt_size hol
      have sz : (s.heap.push (newSetObj w)).objs.size = s.heap.objs.size + 1 := Heap.size_push ..
      have nI : l ≠ (s.heap.push (newSetObj w)).objs.size := by rw [sz]; exact Nat.ne_of_lt (Nat.lt_succ_of_lt lS)
      have nS : s.heap.objs.size ∉ [(s.heap.push (newSetObj w)).objs.size, l] := by
        rw [sz]
        intro q
        rcases List.mem_cons.mp q with q | q
        · exact Nat.ne_of_lt (Nat.lt_succ_self _) q
        · exact Nat.ne_of_gt lS (List.mem_singleton.mp q)
      have val : ∀ (i : Nat) (v : Value), items[i]? = some v → ∃ k t, ns[i]? = some k ∧ v = .int k t := fun i v hv => by
        have hi : i < ns.length := by rw [← hisz]; exact (Array.getElem?_eq_some_iff.mp hv).1
        obtain ⟨t, e⟩ := PyProof.Rows.IntsAre.int_at hit i v (by rw [Array.getElem?_toList]; exact hv)
        exact ⟨ns[i], t, List.getElem?_eq_getElem hi, by rw [e, List.getD_eq_getElem?_getD, List.getElem?_eq_getElem hi] <;> rfl⟩
      refine set_update_ints ((Walks.list (by simp [hh]) _ l nI items).toS) s.heap.objs.size nS ns hisz hb val items.size 0 _ (Nat.sub_zero _) (Nat.zero_le _)
        ⟨⟨_, Heap.get?_push_size _ rfl, rfl, rfl⟩, hl1.push _⟩ ⟨0, Nat.le_refl 0, setR_new_at (Heap.get?_push_of_some _ hS)⟩ fun z c hm hc hS' => ?_
      obtain ⟨h', g2, d', tk', os'⟩ := z
      cases (show g2 = s.gens from hm.gens)
      cases (show d' = s.drawn from hm.drawn)
      cases (show os' = s.os from hm.os)
      show wpAny _ _ _ _ _ _
      refine wpAny_pure ?_
      show wpAny _ _ (ret Value.none) _ _ _
      refine wpAny_pure ⟨rfl, h', tk', c, rfl, hS', by omega, fun b o e => ?_⟩
      have b0 : b < s.heap.objs.size := Heap.lt_size e
      refine hm.heap b o (fun q => ?_) (Heap.get?_push_of_some _ (Heap.get?_push_of_some _ e))
      rcases List.mem_cons.mp q with q | q
      · exact Nat.ne_of_lt b0 q
      · rw [List.mem_singleton.mp q, sz] at b0
        exact absurd b0 (Nat.not_lt.mpr (Nat.le_succ _))
    · match r2, hr2 with
      | .error _, hr2 => exact hr2
      | .ok .next, hr2 => exact False.elim hr2
      | .ok .brk, hr2 => exact False.elim hr2
      | .ok .cont, hr2 => exact False.elim hr2
      | .ok (.ret _), hr2 =>
        obtain ⟨rfl, h', tk, c', rfl, hS', hc', hk'⟩ := hr2
        repeat (any_goals (first | assumption | wp_step))
        exact h _ _ _ hS' hc' hk'
end
section
variable {X : Cx}
/-- set(xs), a list or a tuple of ints -/
def rSetI (K : PySem.W.Frag) (w : World) : List V → Hp → VK → Prop := fun xs H Q => ∃ (l : Addr) (ns : List Int), xs = [V.ref l] ∧ (SqL K H l (ns.map V.int) ∨ SqT K H l (ns.map V.int)) ∧ ns.length < 60 ∧
  ∀ p c, c ≤ ns.length → H p = none → Q (.ref p) (upd H p (SetO w p (fun j => decide (j ∈ ns)) c))
theorem cr_setI (hc : X.calm = true) : CallR X (.type "set") (rSetI X.K X.w) := by
  intro pins s σ H xs us Q I r h
  obtain ⟨l, ns, rfl, hl, hf, q⟩ := h
  rw [Vals.ref1 r]
  have hn : H s.heap.objs.size = none := I.hok.fresh (Nat.le_refl _)
  have fin : ∀ (h' : Heap) (tk c : Nat), SetR X.w h' s.heap.objs.size (fun j => decide (j ∈ ns)) c → c ≤ ns.length → (∀ b o, s.heap.get? b = some o → h'.get? b = some o) → EP X pins σ Q (.ref s.heap.objs.size) { s with heap := h', toks := tk } :=
    fun h' tk c R hc k => ⟨.ref s.heap.objs.size, _, I.laid (t' := tk) k (Nat.le_refl _) (setO_new R), rfl, q _ c hc hn⟩
  have hb : ns.length + 1 < scanBound := by unfold scanBound; omega
  rcases hl with hl | hl
  · obtain ⟨its, rv, pl, hz⟩ := I.list hl
    exact call_set_lstI ns (I.ok.hd hc) pl.isList (by simpa using rv.ints) hb fin
  · obtain ⟨its, rv, pt, hz⟩ := I.tuple hl
    exact call_set_tupI ns (I.ok.hd hc) (show s.heap.IsTuple l its.toArray from pt) (by simpa using rv.ints) hb fin
end
end FT
set_option Elab.async false
set_option linter.all false
set_option maxRecDepth 100000
set_option maxHeartbeats 4000000
/-! sorted of a list, of a set of tuples of ints, of any length each, the empty one too: the same items in some order. -/
namespace FT
open PySem PySem.Spec PyProof.Rows L2
abbrev sh0 : Nat → Bool := fun _ => false
abbrev KX (h : Heap) : PyProof.Rows.KeyKind := G.tupKindC h sh0
theorem items_inl : ∀ {vs : List Value} {ns : List Int} (i : Nat), IntsAre vs ns → tupItems sh0 i vs = some (ns.map Sum.inl)
  | _, _, _, .nil => by simp [tupItems]
  | _, _, i, .cons n t r => by
    have e := items_inl (i + 1) r
    simp [tupItems, e]
theorem items_ints : ∀ (vs : List Value) (i : Nat) (l : List (Int ⊕ List Nat)), tupItems sh0 i vs = some l → ∃ ns, IntsAre vs ns ∧ l = ns.map Sum.inl
  | [], _, l, h => by
    have e : [] = l := by simpa [tupItems] using h
    exact ⟨[], .nil, e.symm⟩
  | v :: vs, i, l, h => by
    cases v with
    | int n t =>
      have h' : (tupItems sh0 (i + 1) vs).map (Sum.inl n :: ·) = some l := by simpa [tupItems] using h
      obtain ⟨l', e1, e2⟩ := Option.map_eq_some_iff.mp h'
      obtain ⟨ns, a, b⟩ := items_ints vs (i + 1) l' e1
      exact ⟨n :: ns, .cons n t a, by rw [← e2, b] <;> rfl⟩
    | _ => simp [tupItems] at h
theorem key_of_tup {h : Heap} {v : Value} {ns : List Int} (t : TS.TupInts h v ns) : G.tupKeyC h sh0 v = some (ns.map Sum.inl) := by
  obtain ⟨a, xs, rfl, ⟨o, ho, hc, n, hd⟩, hi⟩ := t
  have c1 : G.isTupObj h (.ref a) = true := by simp [G.isTupObj, ho, hc]
  unfold G.tupKeyC
  rw [if_pos c1]
  unfold tupKey
  simp only [ho, hd]
  exact items_inl 0 hi
theorem lex_inl : ∀ (ns ms : List Int), PyProof.Rows.lexLt itemOrd (ns.map Sum.inl) (ms.map Sum.inl) = HT.lexLt ns ms
  | [], [] => rfl
  | [], _ :: _ => rfl
  | _ :: _, [] => rfl
  | x :: r, y :: t => by
    show (decide (x < y) || (!decide (y < x) && PyProof.Rows.lexLt itemOrd (r.map Sum.inl) (t.map Sum.inl))) = _
    rw [lex_inl r t, HT.lexLt_cons]
    by_cases e : x = y
    · subst e
      simp
    · rw [if_neg e]
      by_cases l : x < y
      · simp [l]
      · have : y < x := by omega
        simp [l, this]
section
variable {P : Program} {w : World} {A : Around} {E : Value → Shared → Prop} {s : Shared}
theorem tup_keys {v : Value} {l : List (Int ⊕ List Nat)} (h : (KX s.heap).keyOf v = some l) : ∃ (a : Addr) (xs : Array Value) (ns : List Int), v = .ref a ∧ IsTup s.heap a xs ∧ IntsAre xs.toList ns ∧ l = ns.map Sum.inl := by
  obtain ⟨a, o, xs, n, e, ho, hc, hd, hi⟩ := G.tupKeyC_some h
  obtain ⟨ns, i, e2⟩ := items_ints _ _ _ hi
  exact ⟨a, xs, ns, e, ⟨o, ho, hc, n, hd⟩, i, e2⟩
/-- the general comparison -/
theorem lt_general (hu : A.units < cLine) : H.LtAt P w A s (KX s.heap) general' := by
  intro E x y a b Q ha hb hq
  obtain ⟨p, xs, ns, rfl, hp, hi, rfl⟩ := tup_keys ha
  obtain ⟨q, ys, ms, rfl, hq', hj, rfl⟩ := tup_keys hb
  have e : Q (HT.lexLt ns ms) s := by
    rw [← lex_inl]
    exact hq
  show wpAny _ _ (oneLt' false (.ref p) (.ref q)) _ _ _
  exact W.kat_one _ _ (HT.lt_tupInts hp hq' hi hj hu e)
/-- the comparison of values of one type -/
theorem lt_one (hu : A.units < cLine) : H.LtAt P w A s (KX s.heap) oneType' := by
  intro E x y a b Q ha hb hq
  obtain ⟨p, xs, ns, rfl, hp, hi, rfl⟩ := tup_keys ha
  obtain ⟨q, ys, ms, rfl, hq', hj, rfl⟩ := tup_keys hb
  have e : Q (HT.lexLt ns ms) s := by
    rw [← lex_inl]
    exact hq
  obtain ⟨⟨c1, d1, t1, l1⟩, o1, k1, n1, z1⟩ := hp
  obtain ⟨⟨c2, d2, t2, l2⟩, o2, k2, n2, z2⟩ := hq'
  simp only at k1 z1 k2 z2
  subst k1 z1 k2 z2
  rw [keyLt'_oneType, oneLt'_eq]
  simp only [if_true]
  refine wpAny_bind (wpAny_cRoomFor hu ?_)
  have ty : s.TypeIs (.ref p) "tuple" := ⟨_, o1, rfl⟩
  refine wpAny_bind (wpAny_callSpecialIfBound?_slot ty PySem.F.slot_tuple_lt (call_meets PySem.F.slot_tuple_lt ty PySem.F.entry_tuple_lt (PySem.F.args_tuple_lt_2 _ _) (HT.tuple_lt_ints p q xs ys n1 n2 d1 d2 l1 l2 ns ms hi hj) ⟨o1, o2, ?_⟩))
  exact wpAny_truthy_bool e
/-- tuples of ints can be sorted -/
theorem sorts_tups {vs : List Value} (hu : A.units < cLine) (hv : ∀ v ∈ vs, ∃ ns, TS.TupInts s.heap v ns) : W.SortsAt P w A s (KX s.heap) vs := by
  refine ⟨fun v m => ?_, ?_⟩
  · obtain ⟨ns, t⟩ := hv v m
    exact ⟨_, key_of_tup t⟩
  by_cases all : ∀ v ∈ vs, ∃ n ns, TS.TupInts s.heap v (n :: ns)
  · -- each has a first item
    refine ⟨tuples' true, fun E x y a b Q ha hb hq => G.tupC_ltAt (h := s.heap) true (fun _ _ e _ => e) A E x y a b ha hb hq, fun h2 E Q hq => ?_⟩
    have fs : ∀ l : List Value, (∀ v ∈ l, ∃ n ns, TS.TupInts s.heap v (n :: ns)) → ∃ fs, W.KatTups s.heap l fs ∧ fs.length = l.length ∧ ∀ f ∈ fs, ∃ n t, f = Value.int n t := by
      intro l
      induction l with
      | nil => exact fun _ => ⟨[], W.KatTups.nil, rfl, fun f hf => absurd hf (by simp)⟩
      | cons v l ih =>
        intro h
        obtain ⟨fs, i1, i2, i3⟩ := ih fun u hu => h u (List.mem_cons_of_mem _ hu)
        obtain ⟨n, ns, a, xs, rfl, ⟨o, ho, hc, k, hd⟩, hi⟩ := h v List.mem_cons_self
        cases q : xs.toList with
        | nil => rw [q] at hi; cases hi
        | cons f fr =>
          rw [q] at hi
          cases hi with
          | cons _ t _ =>
            have hf : xs[0]? = some (Value.int n t) := by rw [← Array.getElem?_toList, q] <;> rfl
            refine ⟨.int n t :: fs, W.KatTups.cons ho hc hd hf i1, by rw [List.length_cons, List.length_cons, i2], fun g hg => ?_⟩
            rcases List.mem_cons.mp hg with e | hg
            · exact ⟨n, t, e⟩
            · exact i3 g hg
    obtain ⟨fs, t1, t2, t3⟩ := fs vs all
    refine W.kat_kind (T := .type "int") t1 (by omega) (fun f hf => ?_) (beq_self_eq_true _) hq
    obtain ⟨n, t, rfl⟩ := t3 f hf
    exact .now
  · -- one has none
    have some_none : ∃ v ∈ vs, TS.TupInts s.heap v [] := by
      refine Classical.byContradiction fun no => all fun v m => ?_
      obtain ⟨ns, t⟩ := hv v m
      cases ns with
      | nil => exact absurd ⟨v, m, t⟩ no
      | cons n ns => exact ⟨n, ns, t⟩
    -- what the first looks give
    have firsts : ∀ l : List Value, (∀ v ∈ l, ∃ ns, TS.TupInts s.heap v ns) → ∃ bs : List (Option Value), bs.length = l.length ∧ ((∃ v ∈ l, TS.TupInts s.heap v []) → bs.all (·.isSome) = false) ∧
        ∀ (A : Around) (E : Value → Shared → Prop) (Q : List (Option Value) → Shared → Prop), Q bs s → wpAny (model P w) A (l.mapM firstOfTuple') Q E s := by
      intro l
      induction l with
      | nil => exact fun _ => ⟨[], rfl, fun ⟨v, m, _⟩ => absurd m (by simp), fun A E Q h => by rw [List.mapM_nil]; exact wpAny_pure h⟩
      | cons v l ih =>
        intro h
        obtain ⟨bs, i1, i2, i3⟩ := ih fun u hu => h u (List.mem_cons_of_mem _ hu)
        obtain ⟨ns, a, xs, e, ⟨o, ho, hc, k, hd⟩, hi⟩ := h v List.mem_cons_self
        refine ⟨xs[0]? :: bs, by rw [List.length_cons, List.length_cons, i1], fun ⟨u, m, t⟩ => ?_, fun A E Q hq => ?_⟩
        · rcases List.mem_cons.mp m with eu | m
          · have z : ns = [] := by
              have t0 : TS.TupInts s.heap v ns := ⟨a, xs, e, ⟨o, ho, hc, k, hd⟩, hi⟩
              rw [← t0.ints, ← eu]
              exact t.ints
            rw [z] at hi
            have : xs.toList = [] := by cases hx : xs.toList with
              | nil => rfl
              | cons y r => rw [hx] at hi; cases hi
            have x0 : xs[0]? = none := by rw [← Array.getElem?_toList, this] <;> rfl
            rw [x0]
            rfl
          · rw [List.all_cons, i2 ⟨u, m, t⟩, Bool.and_false]
        · rw [List.mapM_cons, e]
          refine wpAny_bind ?_
          rw [W.kas_first_eq]
          refine wpAny_bind (W.Looks.here (show W.Looks (model P w) s.heap (typeOf (.ref a)) o.cls from (W.Looks.ld ho).andThen .now) ?_)
          rw [hc, if_neg (by first | decide | simp)]
          exact wpAny_bind (listItems_at ho hd (wpAny_pure (wpAny_bind (i3 A E _ (wpAny_pure hq)))))
    obtain ⟨bs, b1, b2, b3⟩ := firsts vs hv
    have ball := b2 some_none
    by_cases hb : (bs[0]?.bind id).isSome = true
    · refine ⟨general', lt_general hu, fun h2 E Q hq => ?_⟩
      rw [kat_kind_eq, List.mapM_toArray, map_eq_pure_bind]
      refine wpAny_bind (wpAny_bind (b3 _ _ _ (wpAny_pure ?_)))
      have z : (bs.toArray.all fun x => x.isSome) = false := by simpa using ball
      rw [z, if_neg (by simp), if_pos (by simpa using hb)]
      exact wpAny_pure hq
    · refine ⟨oneType', lt_one hu, fun h2 E Q hq => ?_⟩
      rw [kat_kind_eq, List.mapM_toArray, map_eq_pure_bind]
      refine wpAny_bind (wpAny_bind (b3 _ _ _ (wpAny_pure ?_)))
      have z : (bs.toArray.all fun x => x.isSome) = false := by simpa using ball
      rw [z, if_neg (by simp), if_neg (by simpa using hb)]
      rw [oneTypeOnly'_eq, List.mapM_toArray, map_eq_pure_bind]
      refine wpAny_bind (wpAny_bind (wpAny_bind (W.kas_mapM (r := .type "tuple") _ (fun v m Q' hq' => ?_) (wpAny_pure ?_))))
      · obtain ⟨ns, a, xs, e, ⟨o, ho, hc, k, hd⟩, hi⟩ := hv v m
        subst e
        refine W.Looks.here (show W.Looks (model P w) s.heap (typeOf (.ref a)) o.cls from (W.Looks.ld ho).andThen .now) ?_
        rw [hc]
        exact hq'
      · obtain ⟨v1, r, rfl⟩ : ∃ v1 r, vs = v1 :: r := by
          match vs, h2 with
          | v1 :: r, _ => exact ⟨v1, r, rfl⟩
        have a2 : ((List.map (fun _ => Value.type "tuple") (v1 :: r)).toArray.all fun x => x == Value.type "tuple") = true := by
          simp only [List.all_toArray, List.all_map, List.all_eq_true]
          intro _ _
          exact beq_self_eq_true _
        have a0 : (List.map (fun _ => Value.type "tuple") (v1 :: r)).toArray[0]? = some (Value.type "tuple") := by simp
        rw [a0]
        simp only [a2, if_true]
        exact wpAny_pure (wpAny_pure hq)
theorem sortVals_perm (κ : PyProof.Rows.KeyKind) (vs : List Value) : (W.sortVals κ false vs vs).Perm vs := by
  have e : ((vs.zip vs).map Prod.snd) = vs := List.map_snd_zip (Nat.le_refl _)
  have h := (List.mergeSort_perm (vs.zip vs) (W.sortLe κ.toKeyOrd false fun p : Keyed => W.keyD κ p.1)).map Prod.snd
  rw [e] at h
  exact h
end
end FT
set_option Elab.async false
set_option linter.all false
set_option maxRecDepth 100000
set_option maxHeartbeats 4000000
namespace FT
open PySem PySem.Spec PyProof.Rows L2
theorem perm_of_map {α β : Type} {f : α → β} {l l2 : List β} (h : l.Perm l2) : ∀ m : List α, l2 = m.map f → ∃ m' : List α, l = m'.map f ∧ m'.Perm m := by
  induction h with
  | nil => exact fun m e => ⟨[], rfl, by cases m with | nil => exact .nil | cons x r => cases e⟩
  | cons x _ ih =>
    intro m e
    cases m with
    | nil => cases e
    | cons y r =>
      rw [List.map_cons] at e
      injection e with e1 e2
      obtain ⟨m', a, b⟩ := ih r e2
      exact ⟨y :: m', by rw [List.map_cons, a, e1], b.cons y⟩
  | swap x y l =>
    intro m e
    match m, e with
    | [], e => cases e
    | [_], e => cases e
    | a :: b :: r, e =>
      rw [List.map_cons, List.map_cons] at e
      injection e with e1 e
      injection e with e2 e3
      exact ⟨b :: a :: r, by rw [List.map_cons, List.map_cons, e1, e2, e3], .swap a b r⟩
  | trans _ _ ih1 ih2 =>
    intro m e
    obtain ⟨m1, a1, b1⟩ := ih2 m e
    obtain ⟨m2, a2, b2⟩ := ih1 m1 a1
    exact ⟨m2, a2, b2.trans b1⟩
/-- an address with the ints of the tuple there -/
abbrev TA' := Addr × List Int
abbrev refsV (ts : List TA') : List V := ts.map fun p => V.ref p.1
section
variable {X : Cx}
/-- sorted(xs), xs a list of tuples of ints: the same tuples in some order -/
def rSortTs (K : PySem.W.Frag) : List V → Hp → VK → Prop := fun vs H Q => ∃ (a : Addr) (ts : List TA'), vs = [V.ref a] ∧ SqL K H a (refsV ts) ∧ (∀ p ∈ ts, SqT K H p.1 (p.2.map V.int)) ∧
  ∀ (ts' : List TA') (p : Addr), ts'.Perm ts → H p = none → Q (.ref p) (upd H p (.lst (refsV ts')))
theorem cr_sortTs (hu : X.A.units + 2 < cLine) : CallR X (.builtin "sorted") (rSortTs X.K) := by
  intro pins s σ H vs us Q I r h
  obtain ⟨a, ts, rfl, hs, ht, q⟩ := h
  obtain ⟨its, rv, hl, hz⟩ := I.list hs
  have eits : its = ts.map fun p => Value.ref p.1 := refs_of_vals rv
  rw [Vals.ref1 r]
  have hL : its.length ≤ sizeLine := by rw [← rv.length]; exact hz
  refine W.sorted_vals (κ := KX (W.sortingHeap (W.copyHeap s.heap its) (s.heap.objs.size + 1) its)) hl.isList ?_ hL ?_
  · refine sorts_tups (s := { s with heap := W.sortingHeap (W.copyHeap s.heap its) (s.heap.objs.size + 1) its }) (show X.A.units + 1 + 1 < cLine from hu) fun v hv => ?_
    rw [eits] at hv
    obtain ⟨p, hp, rfl⟩ := List.mem_map.mp hv
    exact ⟨p.2, (tupI_raw I (ht p hp)).keeps fun b o e _ => W.sorting_copy_old e⟩
  · obtain ⟨ts', e', pm⟩ := perm_of_map (sortVals_perm (KX (W.sortingHeap (W.copyHeap s.heap its) (s.heap.objs.size + 1) its)) its) ts eits
    obtain ⟨ep, he'⟩ := PyProof.Rows.sortedAll_at s.heap its (W.sortVals (KX (W.sortingHeap (W.copyHeap s.heap its) (s.heap.objs.size + 1) its)) false its its).toArray
    have hlen : (refsV ts').length ≤ sizeLine := by
      rw [List.length_map, pm.length_eq, ← List.length_map (f := fun p : TA' => V.ref p.1)]
      exact hz
    refine ⟨.ref _, upd H (s.heap.objs.size + 1) (.lst (refsV ts')), I.laid (t' := s.toks) (fun _ _ => PyProof.Rows.sortedAll_old) (Nat.le_succ _) ⟨hlen, _, ep, ?_, he'⟩, rfl, q ts' _ pm (I.hok.fresh (Nat.le_succ _))⟩
    rw [e']
    exact vals_of_refs ts'
/-- sorted(s), s a set of tuples of ints -/
def rSortSs (P : Program) (w : World) (K : PySem.W.Frag) : List V → Hp → VK → Prop := fun vs H Q => ∃ (a : Addr) (L : List TA'), vs = [V.ref a] ∧ H a = some (SetTO P w a L) ∧ (∀ p ∈ L, SqT K H p.1 (p.2.map V.int)) ∧
  ∀ (L' : List TA') (p : Addr), (∀ x, x ∈ L' ↔ x ∈ L) → L'.length < 64 → H p = none → Q (.ref p) (upd H p (.lst (refsV L')))
theorem cr_sortSs (hc : X.calm = true) (hu : X.A.units + 2 < cLine) : CallR X (.builtin "sorted") (rSortSs X.prog X.w X.K) := by
  intro pins s σ H vs us Q I r h
  obtain ⟨a, L, rfl, ha, hk, q⟩ := h
  have R0 : SetT0 X.prog X.w s.heap a L := (I.hok a _ ha).1
  obtain ⟨es, ep, t, R⟩ := R0.full fun p hp => I.isT (hk p hp)
  rw [Vals.ref1 r]
  obtain ⟨o, ho, hex, hd⟩ := R.ob
  have hfew := R.few
  have hes : es.toList.map (·.2) = L.map fun q => Value.ref q.1 := by
    rw [R.rows]
    unfold rowsOf
    rw [List.map_map] <;> rfl
  refine Calls.call_function_entry kind_sorted plain_sorted entry_sorted (args_sorted1 _) ?_
  unfold Builtin.«sorted»
  refine wpAny_bind (m := checkCount "sorted" 1 1 _) (wpAny_pure ?_)
  refine wpAny_bind (collect_set (A := X.A.in1) (I.ok.hd hc) ⟨o, ho, hex.1, hd⟩ R.fits (by have := R.size; unfold scanBound; omega) R.tab.ris R.led fun s1 vs k1 hz g1 o1 pm => ?_)
  rw [hes] at pm
  obtain ⟨L1, e1, pL⟩ := perm_of_map pm L rfl
  have hvl : vs.length ≤ sizeLine := by
    rw [pm.length_eq, List.length_map, sizeLine_eq]
    omega
  refine wpAny_bind (wpAny_newList ?_ hvl)
  have hoL : (s1.heap.push (seqObj "list" vs.toArray 0)).get? s1.heap.objs.size = some (seqObj "list" vs.toArray 0) := Heap.get?_push_size _ rfl
  have old : ∀ b u, s.heap.get? b = some u → (W.sortingHeap (s1.heap.push (seqObj "list" vs.toArray 0)) s1.heap.objs.size vs).get? b = some u := fun b u e => by
    have q := k1 b u e
    exact W.sortingHeap_old (Nat.ne_of_lt (Heap.lt_size q)) (Heap.get?_push_of_some _ q)
  refine wpAny_bind (wpAny_holding (wpAny_call_entry slot_list_sort ⟨_, hoL, rfl⟩ entry_list_sort
    (W.list_sort_vals (s := { s1 with heap := s1.heap.push (seqObj "list" vs.toArray 0) }) (κ := KX (W.sortingHeap (s1.heap.push (seqObj "list" vs.toArray 0)) s1.heap.objs.size vs)) hoL ?_ hvl ⟨_, rfl, ?_⟩) (args_list_sort _)))
  · refine sorts_tups (s := { s1 with heap := W.sortingHeap (s1.heap.push (seqObj "list" vs.toArray 0)) s1.heap.objs.size vs }) (show X.A.units + 1 + 1 < cLine from hu) fun v hv => ?_
    rw [e1] at hv
    obtain ⟨p, hp, rfl⟩ := List.mem_map.mp hv
    have hp' : p ∈ L := pL.mem_iff.mp hp
    exact ⟨p.2, (tupI_raw I (hk p hp')).keeps fun b u e _ => old b u e⟩
  · generalize hout : W.sortVals (KX (W.sortingHeap (s1.heap.push (seqObj "list" vs.toArray 0)) s1.heap.objs.size vs)) false vs vs = out
    have po : out.Perm vs := by rw [← hout]; exact sortVals_perm _ vs
    obtain ⟨L2', e2, pL2⟩ := perm_of_map po L1 e1
    obtain ⟨c, hc'⟩ := sortedHeap_at (vs := vs) (out := out.toArray) hoL
    have kept : ∀ b u, s.heap.get? b = some u → (sortedHeap (s1.heap.push (seqObj "list" vs.toArray 0)) s1.heap.objs.size vs out.toArray).get? b = some u := fun b u e => by
      have q := k1 b u e
      have hlt := Heap.lt_size q
      rw [sortedHeap_old (Nat.ne_of_lt hlt) (by rw [size_push']; exact Nat.lt_succ_of_lt hlt)]
      exact Heap.get?_push_of_some _ q
    have hlen : (refsV L2').length ≤ sizeLine := by
      rw [List.length_map, pL2.length_eq, pL.length_eq, sizeLine_eq]
      omega
    have hn : H s1.heap.objs.size = none := I.hok.fresh hz
    have hv : Vals (refsV L2') out.toArray.toList := by
      rw [List.toList_toArray, e2]
      exact vals_of_refs L2'
    have J : Inv X pins σ (upd H s1.heap.objs.size (.lst (refsV L2'))) { s with heap := sortedHeap (s1.heap.push (seqObj "list" vs.toArray 0)) s1.heap.objs.size vs out.toArray, gens := s1.gens, drawn := s1.drawn, toks := s1.toks } :=
      I.call (ch := []) (Un.laid kept hz hn) (I.hok.laid kept hz ⟨hlen, out.toArray.toList, c, hv, hc'⟩) (by rw [g1]; exact I.bare) (fun _ z => nomatch z)
    have e : ({ s1 with heap := sortedHeap (s1.heap.push (seqObj "list" vs.toArray 0)) s1.heap.objs.size vs out.toArray } : Shared) = { s with heap := sortedHeap (s1.heap.push (seqObj "list" vs.toArray 0)) s1.heap.objs.size vs out.toArray, gens := s1.gens, drawn := s1.drawn, toks := s1.toks } := by
      cases s1
      cases s
      cases o1
      rfl
    refine wpAny_pure ⟨_, rfl, ?_⟩
    show EP X pins σ Q (.ref s1.heap.objs.size) { s1 with heap := sortedHeap (s1.heap.push (seqObj "list" vs.toArray 0)) s1.heap.objs.size vs out.toArray }
    rw [e]
    exact ⟨.ref _, _, J, rfl, q L2' _ (fun x => by rw [pL2.mem_iff, pL.mem_iff]) (by rw [pL2.length_eq, pL.length_eq]; omega) hn⟩
end
end FT
set_option Elab.async false
set_option linter.all false
set_option maxRecDepth 100000
set_option maxHeartbeats 4000000
/-! A dict whose keys are pairs of a tuple of ints and a truth value: a memo. -/
namespace FT
open PySem PySem.Spec PyProof.Rows L2
/-- ints from 0 on, as Python's -/
abbrev zs (ks : List Nat) : List Int := ks.map fun k => ((k : Nat) : Int)
def nv (ks : List Nat) : List V := (zs ks).map V.int
theorem nv_length (ks : List Nat) : (nv ks).length = ks.length := by unfold nv zs; rw [List.length_map, List.length_map]
/-- the key (ks, b) -/
def nk (ks : List Nat) (b : Bool) : NestedKey := .tup [.tup ((zs ks).map NestedKey.num), .num (if b = true then 1 else 0)]
theorem nk_inj {ks js : List Nat} {a b : Bool} (h : nk ks a = nk js b) : ks = js ∧ a = b := by
  unfold nk at h
  injection h with h
  injection h with h1 h2
  injection h2 with h2 _
  injection h1 with h1
  injection h2 with h2
  refine ⟨?_, ?_⟩
  · have inj1 : ∀ (x y : Int), NestedKey.num x = NestedKey.num y → x = y := fun x y e => by injection e
    have e := List.map_inj_right (f := NestedKey.num) (fun x y e => inj1 x y e) |>.mp h1
    exact List.map_inj_right (f := fun k : Nat => (k : Int)) (fun x y e => Int.ofNat.inj e) |>.mp e
  · cases a <;> cases b <;> first | rfl | (exfalso; revert h2; decide)
abbrev MX := NestedKey × Addr × Value
/-- what the dict's own object says -/
def MemH (P : Program) (w : World) (d : Addr) (xs : List MX) (h : Heap) : Prop :=
  ∃ o es ep, h.get? d = some o ∧ o.ExactDict ∧ o.data = .dict es ep ∧ es.toList = xs.map (entryOfKey (nestedKind P w)) ∧ (xs.map (·.1)).Nodup ∧ (d == sysModules) = false
def MemO (P : Program) (w : World) (d : Addr) (xs : List MX) : HO := .ext (MemH P w d xs)
def KeyAt (H : Hp) (T : Addr) (ks : List Nat) (b : Bool) : Prop := ∃ c, H T = some (.tup [.ref c, .bl b]) ∧ H c = some (.tup (nv ks))
def MemE (H : Hp) (f : List Nat → Bool → Nat) (dom : List Nat → Prop) (x : MX) : Prop := ∃ ks b t, dom ks ∧ x.1 = nk ks b ∧ KeyAt H x.2.1 ks b ∧ x.2.2 = .int ((f ks b : Nat) : Int) t
/-- at d stands a memo of f, its keys in dom -/
structure Mem (P : Program) (w : World) (f : List Nat → Bool → Nat) (dom : List Nat → Prop) (H : Hp) (d : Addr) (xs : List MX) : Prop where
  at' : H d = some (MemO P w d xs)
  es : ∀ x ∈ xs, MemE H f dom x
  nd : (xs.map (·.1)).Nodup
def hasK (xs : List MX) (k : NestedKey) : Bool := (atKey xs k).isSome
theorem KeyAt.keep {H H' : Hp} {T : Addr} {ks : List Nat} {b : Bool} (k : KeyAt H T ks b) (h : ∀ a xs, H a = some (.tup xs) → H' a = some (.tup xs)) : KeyAt H' T ks b := by
  obtain ⟨c, h1, h2⟩ := k
  exact ⟨c, h _ _ h1, h _ _ h2⟩
theorem MemE.keep {H H' : Hp} {f : List Nat → Bool → Nat} {dom : List Nat → Prop} {x : MX} (e : MemE H f dom x) (h : ∀ a xs, H a = some (.tup xs) → H' a = some (.tup xs)) : MemE H' f dom x := by
  obtain ⟨ks, b, t, h1, h2, h3, h4⟩ := e
  exact ⟨ks, b, t, h1, h2, h3.keep h, h4⟩
/-- the memo stands while its object and the tuples do -/
theorem Mem.keep {P : Program} {w : World} {H H' : Hp} {f : List Nat → Bool → Nat} {dom : List Nat → Prop} {d : Addr} {xs : List MX} (m : Mem P w f dom H d xs) (h : ∀ a o, H a = some o → H' a = some o) : Mem P w f dom H' d xs :=
  ⟨h _ _ m.at', fun x hx => (m.es x hx).keep fun a ys e => h a _ e, m.nd⟩
theorem atKey_mem {K : Type} [DecidableEq K] : ∀ {xs : List (K × Addr × Value)} {k : K} {p : Addr × Value}, atKey xs k = some p → (k, p) ∈ xs
  | [], k, p, h => by simp [atKey] at h
  | x :: xs, k, p, h => by
    by_cases e : x.1 = k
    · have : x.2 = p := by simpa [atKey, e] using h
      rw [← e, ← this]
      exact List.mem_cons_self
    · have : atKey xs k = some p := by simpa [atKey, e] using h
      exact List.mem_cons_of_mem _ (atKey_mem this)
section
variable {P : Program} {w : World} {H : Hp} {h : Heap} {d T : Addr} {xs : List MX} {ks : List Nat} {b : Bool} {f : List Nat → Bool → Nat} {dom : List Nat → Prop}
theorem nums_all {h : Heap} : ∀ {zs : List Int} {us : List Value}, Vals (zs.map V.int) us → NestedAll h (zs.map NestedKey.num) us
  | [], _, .nil => .nil
  | z :: zs, _, .cons r t => by
    obtain ⟨tk, rfl⟩ := r
    exact .cons (.int z tk) (nums_all t)
theorem depth_nums : ∀ zs : List Int, NestedKey.depthAll (zs.map NestedKey.num) = 0
  | [] => by simp [NestedKey.depthAll]
  | z :: zs => by
    rw [List.map_cons, NestedKey.depthAll, depth_nums zs]
    simp [NestedKey.depth]
theorem key_is (ok : HOk P w H h) (k : KeyAt H T ks b) : (nestedKind P w).is h (nk ks b) T := by
  obtain ⟨c, h1, h2⟩ := k
  obtain ⟨_, its, rv, o, g1, g2, n, g3⟩ := (show ObjOk P w H h T (.tup [.ref c, .bl b]) from ok T _ h1)
  obtain ⟨_, its2, rv2, o2, k1, k2, n2, k3⟩ := (show ObjOk P w H h c (.tup (nv ks)) from ok c _ h2)
  refine ⟨.tup g1 g2 g3 ?_, ?_⟩
  · rw [List.toList_toArray]
    cases rv with
    | cons r1 r2 =>
      cases r2 with
      | cons r3 r4 =>
        cases r4
        cases r1
        cases r3
        exact .cons (.tup k1 k2 k3 (by rw [List.toList_toArray]; exact nums_all rv2)) (.cons (.bool rfl) .nil)
  · show NestedKey.depth (nk ks b) ≤ 8
    unfold nk
    rw [NestedKey.depth, NestedKey.depthAll, NestedKey.depth, depth_nums]
    simp [NestedKey.depth, NestedKey.depthAll]
theorem mem_of (ok : HOk P w H h) (m : Mem P w f dom H d xs) : h.DictOfH (nestedKind P w) d xs ∧ (d == sysModules) = false := by
  obtain ⟨⟨o, es, ep, h1, h2, h3, h4, h5, h6⟩, _, _⟩ := (show ObjOk P w H h d (MemO P w d xs) from ok d _ m.at')
  refine ⟨⟨o, es, ep, h1, h2, h3, h4, fun x hx => ?_, h5⟩, h6⟩
  obtain ⟨ks', b', t, _, e, k, _⟩ := m.es x hx
  rw [e]
  exact key_is ok k
theorem memO_new {d : Addr} {H : Hp} (m : h.DictOfH (nestedKind P w) d xs) (hd : (d == sysModules) = false) : ObjOk P w H h d (MemO P w d xs) := by
  obtain ⟨o, es, ep, h1, h2, h3, h4, _, h5⟩ := m
  refine ⟨⟨o, es, ep, h1, h2, h3, h4, h5, hd⟩, ⟨o, h1⟩, fun g1 g2 p k => ?_⟩
  obtain ⟨o', es', ep', i1, i2⟩ := p
  exact ⟨o', es', ep', k o' i1, i2⟩
theorem has_val (m : Mem P w f dom H d xs) (hk : hasK xs (nk ks b) = true) : ∃ p t, atKey xs (nk ks b) = some p ∧ p.2 = .int ((f ks b : Nat) : Int) t := by
  unfold hasK at hk
  obtain ⟨p, hp⟩ := Option.isSome_iff_exists.mp hk
  obtain ⟨ks', b', t, _, e, _, v⟩ := m.es _ (atKey_mem hp)
  obtain ⟨rfl, rfl⟩ := nk_inj e
  exact ⟨p, t, hp, v⟩
end
section
variable {X : Cx} {o i value : Expr} {pos pos' : Pos} {td ty tv : TE}
def tMNotIn (P : Program) (w : World) (ty td : TE) : TE := fun σ H Q => ty σ H fun y H1 => td σ H1 fun x H2 => ∃ d T xs f dom ks b, x = V.ref d ∧ y = V.ref T ∧ Mem P w f dom H2 d xs ∧ KeyAt H2 T ks b ∧ Q (.bl (!hasK xs (nk ks b))) H2
def tMGet (P : Program) (w : World) (td ty : TE) : TE := fun σ H Q => td σ H fun x H1 => ty σ H1 fun y H2 => ∃ d T xs f dom ks b, x = V.ref d ∧ y = V.ref T ∧ Mem P w f dom H2 d xs ∧ KeyAt H2 T ks b ∧ hasK xs (nk ks b) = true ∧ Q (.int ((f ks b : Nat) : Int)) H2
def sMPut (P : Program) (w : World) (td ty tv : TE) : TS := fun D σ H => tv σ H fun v H1 => td σ H1 fun x H2 => ty σ H2 fun y H3 => ∃ d T xs f dom ks b, x = V.ref d ∧ y = V.ref T ∧ v = V.int ((f ks b : Nat) : Int) ∧ Mem P w f dom H3 d xs ∧ KeyAt H3 T ks b ∧ dom ks ∧ xs.length < sizeLine ∧
  ∀ xs', Mem P w f dom (upd H3 d (MemO P w d xs')) d xs' → hasK xs' (nk ks b) = true → D.nx σ (upd H3 d (MemO P w d xs'))
def tMNew (P : Program) (w : World) : TE := fun _ H Q => ∀ p, H p = none → Q (.ref p) (upd H p (MemO P w p []))
theorem nroom (hu : X.A.units + 9 < cLine) : (nestedKind X.prog X.w).room X.A.in1 := by
  show X.A.units + 1 + 8 < cLine
  omega
theorem pc_mnotin (hu : X.A.units + 9 < cLine) (hi : PE X i ty) (ho : PE X o td) : PC X .NotIn i o (tMNotIn X.prog X.w ty td) := by
  refine ⟨fun pins s σ H Q I h => ?_⟩
  refine thn (hi.run pins s σ H _ I h) fun iv s1 ⟨y, H1, I1, ry, q1⟩ => thn (ho.run pins s1 σ H1 _ I1 q1) fun u s2 ⟨x, H2, I2, rx, d, T, xs, f, dom, ks, b, ex, ey, m, k, q2⟩ => ?_
  subst ex ey
  cases (show u = Value.ref d from rx)
  cases (show iv = Value.ref T from ry)
  obtain ⟨dd, hd⟩ := mem_of I2.hok m
  exact wpAny_notIn_heap (nroom hu) (key_is I2.hok k) hd dd ⟨.bl (!hasK xs (nk ks b)), H2, I2.tok _, rfl, q2⟩
theorem pe_mget (hu : X.A.units + 9 < cLine) (ho : PE X o td) (hi : PE X i ty) (hs : NoSl i) : PE X (.Subscript o i pos) (tMGet X.prog X.w td ty) := by
  refine ⟨fun pins s σ H Q I h => ?_⟩
  refine subD_of PySem.F.slot_dict_getitem.lookup hs (thn (ho.run pins s σ H _ I h) fun u s1 ⟨x, H1, I1, rx, q1⟩ => thn (hi.run pins s1 σ H1 _ I1 q1) fun iv s2 ⟨y, H2, I2, ry, d, T, xs, f, dom, ks, b, ex, ey, m, k, hk, q2⟩ => ?_)
  subst ex ey
  cases (show u = Value.ref d from rx)
  cases (show iv = Value.ref T from ry)
  obtain ⟨dd, hd⟩ := mem_of I2.hok m
  obtain ⟨p, t, hp, hv⟩ := has_val m hk
  refine ⟨dd.typeIs, wpAny_getItem_heap (nroom hu) (key_is I2.hok k) dd hp ?_⟩
  rw [hv]
  exact ⟨.int ((f ks b : Nat) : Int), H2, I2.tok _, ⟨t, rfl⟩, q2⟩
theorem ps_mput (hu : X.A.units + 9 < cLine) (ho : PE X o td) (hi : PE X i ty) (hv : PE X value tv) (hs : swapsWith value (some (.Subscript o i pos')) pos.line X.env = pure false) :
    PS X (.Assign [.Subscript o i pos'] value pos) (sMPut X.prog X.w td ty tv) := by
  refine ⟨fun pins s σ H D I h => ?_⟩
  refine wpAny_Assign_Subscript (thn (hv.run pins s σ H _ I h) fun r s1 ⟨v, H1, I1, rv, q1⟩ => thn (ho.run pins s1 σ H1 _ I1 q1) fun u s2 ⟨x, H2, I2, rx, q2⟩ => thn (hi.run pins s2 σ H2 _ I2 q2) fun iv s3 ⟨y, H3, I3, ry, d, T, xs, f, dom, ks, b, ex, ey, ev, m, k, hdom, hz, q3⟩ => ?_) hs
  subst ex ey ev
  cases (show u = Value.ref d from rx)
  cases (show iv = Value.ref T from ry)
  obtain ⟨t, rfl⟩ := (show ∃ t, r = Value.int ((f ks b : Nat) : Int) t from rv)
  obtain ⟨dd, hd⟩ := mem_of I3.hok m
  refine wpAny_setItem_heap (hsz := Nat.le_of_lt hz) (nroom hu) (key_is I3.hok k) dd fun h' dd' hsb => ?_
  have keep : ∀ a ys, H3 a = some (.tup ys) → upd H3 d (MemO X.prog X.w d (storedH xs (nk ks b) T (.int ((f ks b : Nat) : Int) t))) a = some (.tup ys) := fun a ys e => by
    rw [upd_ne (ne_of e m.at' (fun z => nomatch z))]
    exact e
  obtain ⟨_, _, _, _, _, _, _, _, nd'⟩ := id dd'
  have m' : Mem X.prog X.w f dom (upd H3 d (MemO X.prog X.w d (storedH xs (nk ks b) T (.int ((f ks b : Nat) : Int) t)))) d (storedH xs (nk ks b) T (.int ((f ks b : Nat) : Int) t)) := by
    refine ⟨upd_same, fun x hx => ?_, nd'⟩
    unfold storedH at hx
    split at hx
    · obtain ⟨y, hy, rfl⟩ := List.mem_map.mp hx
      have ey := (m.es y hy).keep keep
      unfold putAt
      split
      · rename_i e
        obtain ⟨ks', b', t', h1, h2, h3, h4⟩ := ey
        obtain ⟨rfl, rfl⟩ := nk_inj (e.symm.trans h2)
        exact ⟨ks, b, t, h1, h2, h3, rfl⟩
      · exact ey
    · rcases List.mem_append.mp hx with hx | hx
      · exact (m.es x hx).keep keep
      · rw [List.mem_singleton.mp hx]
        exact ⟨ks, b, t, hdom, rfl, k.keep keep, rfl⟩
  have hk' : hasK (storedH xs (nk ks b) T (.int ((f ks b : Nat) : Int) t)) (nk ks b) = true := by
    have e := pairsH_storedH xs (nk ks b) T (.int ((f ks b : Nat) : Int) t)
    have v := valueAt_pairsH (storedH xs (nk ks b) T (.int ((f ks b : Nat) : Int) t)) (nk ks b)
    rw [e, valueAt_stored_same] at v
    unfold hasK
    cases q : atKey (storedH xs (nk ks b) T (.int ((f ks b : Nat) : Int) t)) (nk ks b) with
    | none => rw [q] at v; cases v
    | some p => rfl
  obtain ⟨o', es', ep', ho', _⟩ := id dd'
  exact ⟨σ, _, d_write I3 (by rw [m.at']; exact True.intro) hsb ⟨o', ho'⟩ (memO_new dd' hd), q3 _ m' hk'⟩
theorem pe_mnew : PE X (.Dict [] [] pos) (tMNew X.prog X.w) := ⟨fun pins s σ H Q I h =>
  wpAny_Dict_empty ⟨.ref s.heap.objs.size, _, I.laid (a := s.heap.objs.size) (o := MemO X.prog X.w s.heap.objs.size []) (t' := s.toks) (fun _ _ q => Heap.get?_push_of_some _ q) (Nat.le_refl _)
    (memO_new (Heap.DictOfH.new s.heap) (beq_eq_false_iff_ne.mpr (Ne.symm (Nat.ne_of_lt I.big)))), rfl, h _ (I.hok.fresh (Nat.le_refl _))⟩⟩
end
end FT
set_option Elab.async false
set_option linter.all false
set_option maxRecDepth 100000
set_option maxHeartbeats 4000000
namespace FT
open PySem PySem.Spec PyProof.Rows L2
/-! ### the text by places (printed by gen.py) -/
def top (i : Nat) : Stmt := PySem.Challenge.pw_flankturns_k24_whole_many_against_few.main.body.getD i (.Pass ⟨0, 0, 0, 0⟩)
abbrev s_isin : Stmt := top 6
abbrev ps_isin : List Str := ["value", "least", "most"]
abbrev ns_isin : List Str := ["value", "least", "most"]
theorem sc_isin : FnScope ns_isin ps_isin (defScope s_isin) := ⟨rfl, rfl, rfl, by decide +kernel, rfl, by decide +kernel, by decide +kernel⟩
abbrev s_needline : Stmt := top 11
abbrev ps_needline : List Str := ["line"]
abbrev ns_needline : List Str := ["line", "cells", "held", "is_ring", "least", "index", "one"]
theorem sc_needline : FnScope ns_needline ps_needline (defScope s_needline) := ⟨rfl, rfl, rfl, by decide +kernel, rfl, by decide +kernel, by decide +kernel⟩
abbrev s_iscells : Stmt := top 12
abbrev ps_iscells : List Str := ["many", "value"]
abbrev ns_iscells : List Str := ["many", "value", "x"]
theorem sc_iscells : FnScope ns_iscells ps_iscells (defScope s_iscells) := ⟨rfl, rfl, rfl, by decide +kernel, rfl, by decide +kernel, by decide +kernel⟩
abbrev s_heldin : Stmt := top 13
abbrev ps_heldin : List Str := ["line"]
abbrev ns_heldin : List Str := ["line", "cells", "held", "is_ring", "ends"]
theorem sc_heldin : FnScope ns_heldin ps_heldin (defScope s_heldin) := ⟨rfl, rfl, rfl, by decide +kernel, rfl, by decide +kernel, by decide +kernel⟩
abbrev s_flanks : Stmt := top 14
abbrev ps_flanks : List Str := ["many", "cell"]
abbrev ns_flanks : List Str := ["many", "cell"]
theorem sc_flanks : FnScope ns_flanks ps_flanks (defScope s_flanks) := ⟨rfl, rfl, rfl, by decide +kernel, rfl, by decide +kernel, by decide +kernel⟩
abbrev s_isflanked : Stmt := top 15
abbrev ps_isflanked : List Str := ["cells", "cell"]
abbrev ns_isflanked : List Str := ["cells", "cell", "left", "right"]
theorem sc_isflanked : FnScope ns_isflanked ps_isflanked (defScope s_isflanked) := ⟨rfl, rfl, rfl, by decide +kernel, rfl, by decide +kernel, by decide +kernel⟩
abbrev s_readyin : Stmt := top 16
abbrev ps_readyin : List Str := ["line"]
abbrev ns_readyin : List Str := ["line", "held", "k"]
theorem sc_readyin : FnScope ns_readyin ps_readyin (defScope s_readyin) := ⟨rfl, rfl, rfl, by decide +kernel, rfl, by decide +kernel, by decide +kernel⟩
abbrev s_swingsin : Stmt := top 17
abbrev ps_swingsin : List Str := ["line"]
abbrev ns_swingsin : List Str := ["line"]
theorem sc_swingsin : FnScope ns_swingsin ps_swingsin (defScope s_swingsin) := ⟨rfl, rfl, rfl, by decide +kernel, rfl, by decide +kernel, by decide +kernel⟩
abbrev s_stretchesin : Stmt := top 18
abbrev ps_stretchesin : List Str := ["line"]
abbrev ns_stretchesin : List Str := ["line", "ready", "many", "found", "k", "here"]
theorem sc_stretchesin : FnScope ns_stretchesin ps_stretchesin (defScope s_stretchesin) := ⟨rfl, rfl, rfl, by decide +kernel, rfl, by decide +kernel, by decide +kernel⟩
abbrev s_insides : Stmt := top 20
abbrev ps_insides : List Str := ["line"]
abbrev ns_insides : List Str := ["line", "one"]
theorem sc_insides : FnScope ns_insides ps_insides (defScope s_insides) := ⟨rfl, rfl, rfl, by decide +kernel, rfl, by decide +kernel, by decide +kernel⟩
abbrev s_added : Stmt := top 21
abbrev ps_added : List Str := ["one", "other"]
abbrev ns_added : List Str := ["one", "other", "size", "long", "short", "a", "b"]
theorem sc_added : FnScope ns_added ps_added (defScope s_added) := ⟨rfl, rfl, rfl, by decide +kernel, rfl, by decide +kernel, by decide +kernel⟩
abbrev s_multiplied : Stmt := top 22
abbrev ps_multiplied : List Str := ["one", "other"]
abbrev ns_multiplied : List Str := ["one", "other", "found", "k", "a", "j", "b"]
theorem sc_multiplied : FnScope ns_multiplied ps_multiplied (defScope s_multiplied) := ⟨rfl, rfl, rfl, by decide +kernel, rfl, by decide +kernel, by decide +kernel⟩
abbrev s_pathends : Stmt := top 23
abbrev ps_pathends : List Str := ["many"]
abbrev ns_pathends : List Str := ["many", "rows"]
theorem sc_pathends : FnScope ns_pathends ps_pathends (defScope s_pathends) := ⟨rfl, rfl, rfl, by decide +kernel, rfl, by decide +kernel, by decide +kernel⟩
abbrev s_ringends : Stmt := top 24
abbrev ps_ringends : List Str := ["many"]
abbrev ns_ringends : List Str := ["many", "rows", "size"]
theorem sc_ringends : FnScope ns_ringends ps_ringends (defScope s_ringends) := ⟨rfl, rfl, rfl, by decide +kernel, rfl, by decide +kernel, by decide +kernel⟩
abbrev s_byturns : Stmt := top 25
abbrev ps_byturns : List Str := ["line", "path", "ring"]
abbrev ns_byturns : List Str := ["line", "path", "ring", "found", "some"]
theorem sc_byturns : FnScope ns_byturns ps_byturns (defScope s_byturns) := ⟨rfl, rfl, rfl, by decide +kernel, rfl, by decide +kernel, by decide +kernel⟩
abbrev s_trimmed : Stmt := top 26
abbrev ps_trimmed : List Str := ["counts"]
abbrev ns_trimmed : List Str := ["counts", "found"]
theorem sc_trimmed : FnScope ns_trimmed ps_trimmed (defScope s_trimmed) := ⟨rfl, rfl, rfl, by decide +kernel, rfl, by decide +kernel, by decide +kernel⟩
abbrev s_fewestturns : Stmt := top 27
abbrev ps_fewestturns : List Str := ["line"]
abbrev ns_fewestturns : List Str := ["line", "told", "k"]
theorem sc_fewestturns : FnScope ns_fewestturns ps_fewestturns (defScope s_fewestturns) := ⟨rfl, rfl, rfl, by decide +kernel, rfl, by decide +kernel, by decide +kernel⟩
abbrev s_mostturns : Stmt := top 28
abbrev ps_mostturns : List Str := ["line"]
abbrev ns_mostturns : List Str := ["line"]
theorem sc_mostturns : FnScope ns_mostturns ps_mostturns (defScope s_mostturns) := ⟨rfl, rfl, rfl, by decide +kernel, rfl, by decide +kernel, by decide +kernel⟩
abbrev s_further : Stmt := top 31
abbrev ps_further : List Str := ["paths"]
abbrev ns_further : List Str := ["paths", "found", "at", "many", "rest", "cell", "fresh", "x"]
theorem sc_further : FnScope ns_further ps_further (defScope s_further) := ⟨rfl, rfl, rfl, by decide +kernel, rfl, by decide +kernel, by decide +kernel⟩
abbrev s_valueof : Stmt := top 32
abbrev ps_valueof : List Str := ["paths", "is_more", "known"]
abbrev ns_valueof : List Str := ["paths", "is_more", "known", "key", "told", "there"]
theorem sc_valueof : FnScope ns_valueof ps_valueof (defScope s_valueof) := ⟨rfl, rfl, rfl, by decide +kernel, rfl, by decide +kernel, by decide +kernel⟩
abbrev s_turnsvalue : Stmt := top 33
abbrev ps_turnsvalue : List Str := ["line", "is_more"]
abbrev ns_turnsvalue : List Str := ["line", "is_more", "some"]
theorem sc_turnsvalue : FnScope ns_turnsvalue ps_turnsvalue (defScope s_turnsvalue) := ⟨rfl, rfl, rfl, by decide +kernel, rfl, by decide +kernel, by decide +kernel⟩
abbrev s_Ltaken : Stmt := top 35
abbrev ps_Ltaken : List Str := ["_law_row", "_law_many"]
abbrev ns_Ltaken : List Str := ["_law_row", "_law_many", "_law_found", "_law_cell"]
theorem sc_Ltaken : FnScope ns_Ltaken ps_Ltaken (defScope s_Ltaken) := ⟨rfl, rfl, rfl, by decide +kernel, rfl, by decide +kernel, by decide +kernel⟩
abbrev s_Lpick : Stmt := top 36
abbrev ps_Lpick : List Str := ["_law_row", "_law_things"]
abbrev ns_Lpick : List Str := ["_law_row", "_law_things"]
theorem sc_Lpick : FnScope ns_Lpick ps_Lpick (defScope s_Lpick) := ⟨rfl, rfl, rfl, by decide +kernel, rfl, by decide +kernel, by decide +kernel⟩
abbrev s_Lline : Stmt := top 37
abbrev ps_Lline : List Str := ["_law_row", "_law_most", "_law_colours"]
abbrev ns_Lline : List Str := ["_law_row", "_law_most", "_law_colours", "_law_is_ring", "_law_many", "_law_way", "_law_cells", "_law_k", "_law_free", "_law_thin", "_law_held_here"]
theorem sc_Lline : FnScope ns_Lline ps_Lline (defScope s_Lline) := ⟨rfl, rfl, rfl, by decide +kernel, rfl, by decide +kernel, by decide +kernel⟩
abbrev s_Lheld : Stmt := top 38
abbrev ps_Lheld : List Str := ["_law_line_here"]
abbrev ns_Lheld : List Str := ["_law_line_here", "_law_many", "_law_k"]
theorem sc_Lheld : FnScope ns_Lheld ps_Lheld (defScope s_Lheld) := ⟨rfl, rfl, rfl, by decide +kernel, rfl, by decide +kernel, by decide +kernel⟩
abbrev s_Lready : Stmt := top 39
abbrev ps_Lready : List Str := ["_law_line_here"]
abbrev ns_Lready : List Str := ["_law_line_here", "_law_cells", "_law_many", "_law_held_here", "_law_found", "_law_k", "_law_left", "_law_right"]
theorem sc_Lready : FnScope ns_Lready ps_Lready (defScope s_Lready) := ⟨rfl, rfl, rfl, by decide +kernel, rfl, by decide +kernel, by decide +kernel⟩
abbrev s_Lvalue : Stmt := top 40
abbrev ps_Lvalue : List Str := ["_law_line_here", "_law_cells", "_law_is_more", "_law_known"]
abbrev ns_Lvalue : List Str := ["_law_line_here", "_law_cells", "_law_is_more", "_law_known", "_law_key", "_law_told", "_law_k"]
theorem sc_Lvalue : FnScope ns_Lvalue ps_Lvalue (defScope s_Lvalue) := ⟨rfl, rfl, rfl, by decide +kernel, rfl, by decide +kernel, by decide +kernel⟩
abbrev s_Lalike : Stmt := top 41
abbrev ps_Lalike : List Str := ["_law_found", "_law_due"]
abbrev ns_Lalike : List Str := ["_law_found", "_law_due", "_law_k"]
theorem sc_Lalike : FnScope ns_Lalike ps_Lalike (defScope s_Lalike) := ⟨rfl, rfl, rfl, by decide +kernel, rfl, by decide +kernel, by decide +kernel⟩
abbrev s_law : Stmt := top 42
abbrev ps_law : List Str := ["_law_script"]
abbrev ns_law : List Str := ["_law_script", "_law_row", "_law_line_here", "_law_known", "_law_is_more", "_law_due"]
theorem sc_law : FnScope ns_law ps_law (defScope s_law) := ⟨rfl, rfl, rfl, by decide +kernel, rfl, by decide +kernel, by decide +kernel⟩
/-- a def of the text as it stands behind the top -/
def Df (K : PySem.W.Frag) (mg : Str → Option Value) (x : Str) (st : Stmt) (ps : List Str) : Prop := ∃ (f : Addr) (fd : FuncData), Fun K x x st f fd ∧ Binds K fd ps [] ∧ mg x = some (.ref f)
/-- what the top has left -/
structure Tp (K : PySem.W.Frag) (mg : Str → Option Value) : Prop where
  d_isin : Df K mg "is_in" s_isin ps_isin
  d_needline : Df K mg "need_line" s_needline ps_needline
  d_iscells : Df K mg "is_cells" s_iscells ps_iscells
  d_heldin : Df K mg "held_in" s_heldin ps_heldin
  d_flanks : Df K mg "flanks" s_flanks ps_flanks
  d_isflanked : Df K mg "is_flanked" s_isflanked ps_isflanked
  d_readyin : Df K mg "ready_in" s_readyin ps_readyin
  d_swingsin : Df K mg "swings_in" s_swingsin ps_swingsin
  d_stretchesin : Df K mg "stretches_in" s_stretchesin ps_stretchesin
  d_insides : Df K mg "insides" s_insides ps_insides
  d_added : Df K mg "added" s_added ps_added
  d_multiplied : Df K mg "multiplied" s_multiplied ps_multiplied
  d_pathends : Df K mg "path_ends" s_pathends ps_pathends
  d_ringends : Df K mg "ring_ends" s_ringends ps_ringends
  d_byturns : Df K mg "by_turns" s_byturns ps_byturns
  d_trimmed : Df K mg "trimmed" s_trimmed ps_trimmed
  d_fewestturns : Df K mg "fewest_turns" s_fewestturns ps_fewestturns
  d_mostturns : Df K mg "most_turns" s_mostturns ps_mostturns
  d_further : Df K mg "further" s_further ps_further
  d_valueof : Df K mg "value_of" s_valueof ps_valueof
  d_turnsvalue : Df K mg "turns_value" s_turnsvalue ps_turnsvalue
  d_Ltaken : Df K mg "_law_taken" s_Ltaken ps_Ltaken
  d_Lpick : Df K mg "_law_pick" s_Lpick ps_Lpick
  d_Lline : Df K mg "_law_line" s_Lline ps_Lline
  d_Lheld : Df K mg "_law_held" s_Lheld ps_Lheld
  d_Lready : Df K mg "_law_ready" s_Lready ps_Lready
  d_Lvalue : Df K mg "_law_value" s_Lvalue ps_Lvalue
  d_Lalike : Df K mg "_law_alike" s_Lalike ps_Lalike
  d_law : Df K mg "law" s_law ps_law
  n_isinstance : mg "isinstance" = none
  n_len : mg "len" = none
  n_range : mg "range" = none
  n_list : mg "list" = none
  n_sorted : mg "sorted" = none
  n_set : mg "set" = none
  n_tuple : mg "tuple" = none
  n_max : mg "max" = none
  n_min : mg "min" = none
  n_zip : mg "zip" = none
  n_enumerate : mg "enumerate" = none
  n_int : mg "int" = none
  n_bool : mg "bool" = none
  n_str : mg "str" = none
  n_ValueError : mg "ValueError" = none
  c_MOST_CELLS : ∃ t, mg "MOST_CELLS" = some (.int 40 t)
  c_MOST_COLOUR : ∃ t, mg "MOST_COLOUR" = some (.int 9 t)
  c_LEAST_RING : ∃ t, mg "LEAST_RING" = some (.int 3 t)
  c_MOST_READY : ∃ t, mg "MOST_READY" = some (.int 16 t)
/-! ### a def with its promise, its call -/
structure Kn (P : Program) (w : World) (K : PySem.W.Frag) (mg : Str → Option Value) (base : Heap) (k : Nat) (x : Str) (ps : List Str) (sp : Sp) : Prop where
  ex : ∃ (f : Addr) (fd : FuncData), FnOk P w K mg base CX0 k f fd ps sp ∧ Binds K fd ps [] ∧ PySem.W.keepIn K (.ref f) = true ∧ mg x = some (.ref f)
theorem kn_of {P : Program} {w : World} {K : PySem.W.Frag} {mg : Str → Option Value} {base : Heap} {x : Str} {st : Stmt} {ps N : List Str} {k : Nat} {sp : Sp} (D : Df K mg x st ps) (S : FnScope N ps (defScope st)) (len : ∀ vs H Q E, sp vs H Q E → vs.length = ps.length)
    (hbody : ∀ (f : Addr) (cdv : Value) (A : Around) (outer : List Env) (s : Shared) (H : Hp) (vs : List V) (Q : VK) (E : XK), Room k (A.deeper (envOfC x (defScope st) s.heap.objs.size f cdv)) → sp vs H Q E →
      ∃ t, PSs (cxOf CX0 P w K mg base N x (defScope st) f cdv A outer s H E).nox (defBody st) t ∧ t { nx := fun _ H' => Q .non H', rt := Q } (start N vs) H) : Kn P w K mg base (k + 1) x ps sp := by
  obtain ⟨f, fd, F, b, m⟩ := D
  exact ⟨f, fd, F.ok S len (hbody f), b, F.kp, m⟩
section
variable {X : Cx} {k j : Nat} {x : Str} {ps : List Str} {sp : Sp} {p pos : Pos} {e : Expr} {es : List Expr} {te : TE} {t : TA}
theorem pe_kn (c : Kn X.prog X.w X.K X.mg X.base k x ps sp) (hr : Room j X.A) (ha : PA X (e :: es) t) (hk : k ≤ j := by decide) (hg : Gl X x := by rfl)
    (hdb : (x == ("__debug__" : Str)) = false := by decide) (he : starEach (e :: es) X.env = (false, eval e X.env) :: starEach es X.env := by rfl) (hpl : (backTo pos (starEach es X.env)).any (·.1) = false := by rfl) :
    PE X (.Call (.Name x p) (e :: es) [] pos) (tCall sp [] E0 t) := by
  obtain ⟨f, fd, F, b, kp, m⟩ := c.ex
  exact pe_call F (hr.mono hk) hg m kp b .nil pass0 ha hdb he hpl
/-- isinstance(e, T) of a built-in class T -/
theorem pe_isi {T : String} {nm : Str} {q : Pos} (he : PE X e te) (h1 : X.mg "isinstance" = none) (h2 : X.mg nm = none) (hb : bootBuiltins nm = some (.type T) := by decide +kernel) (hg : Gl X "isinstance" := by rfl) (hg2 : Gl X nm := by rfl) (hn : nm ≠ "__name__" := by decide) (hd : (nm == ("__debug__" : Str)) = false := by decide)
    (hs1 : starEach (e :: [.Name nm q]) X.env = (false, eval e X.env) :: starEach [.Name nm q] X.env := by rfl) (hs2 : starEach (.Name nm q :: []) X.env = (false, eval (.Name nm q) X.env) :: starEach [] X.env := by rfl) (hpl : (backTo pos (starEach [.Name nm q] X.env)).any (·.1) = false := by rfl) :
    PE X (.Call (.Name "isinstance" p) [e, .Name nm q] [] pos) (tCB (rIsi X.K) (tCons te (tCons (tC (.ty T)) tNil))) :=
  pe_callB (p := p) (pos := pos) call_isi hg h1 (by decide +kernel) (pa_cons he (pa_cons (pe_bltn (v := V.ty T) (pos := q) hg2 h2 hb rfl hn hd) pa_nil hs2) hs1) (by decide) (by decide) hs1 hpl
end
theorem isi_of {K : PySem.W.Frag} {H : Hp} {x : V} {T t : String} {b : Bool} {Q : VK} (ty : TyX K H x (.type t)) (hk : kitB t T = some b) (q : Q (.bl b) H) : rIsi K [x, .ty T] H Q := ⟨x, .ty T, .type t, .type T, b, rfl, .ty T, ty, kit_ty hk, q⟩
/-! ### heaps -/
theorem same_new {H : Hp} {p : Addr} (h : H p = none) (o : HO) : Same H (upd H p o) := fun b u q => by rw [upd_ne (ne_of_none q h)]; exact q
/-- all but the object at d stands -/
def SameBut (d : Addr) (H H' : Hp) : Prop := ∀ b o, b ≠ d → H b = some o → H' b = some o
theorem Same.but {d : Addr} {H H' : Hp} (h : Same H H') : SameBut d H H' := fun b o _ e => h b o e
theorem SameBut.trans {d : Addr} {H H1 H2 : Hp} (a : SameBut d H H1) (b : SameBut d H1 H2) : SameBut d H H2 := fun c o n h => b c o n (a c o n h)
theorem SameBut.refl (d : Addr) (H : Hp) : SameBut d H H := fun _ _ _ h => h
theorem but_upd {d : Addr} {H : Hp} (o : HO) : SameBut d H (upd H d o) := fun b u n e => by rw [upd_ne n]; exact e
/-- what the def has made itself may change -/
theorem same_mut {H H' : Hp} {p : Addr} (e : Same H H') (h : H p = none) (o : HO) : Same H (upd H' p o) := fun b u q => by
  rw [upd_ne (ne_of_none q h)]
  exact e b u q
theorem nv_get {ks : List Nat} {i : Nat} (h : i < ks.length) : (nv ks)[i]? = some (.int ((ks.getD i 0 : Nat) : Int)) := by
  unfold nv zs
  rw [List.getElem?_map, List.getElem?_map, List.getD_eq_getElem?_getD, List.getElem?_eq_getElem h] <;> rfl
theorem nv_at {ks : List Nat} {i : Nat} (h : i < ks.length) : atI (nv ks) ((i : Nat) : Int) = some (.int ((ks.getD i 0 : Nat) : Int)) := atI_nat (nv_get h)
theorem nv_in {ks : List Nat} {k : Nat} : inV (.int (k : Int)) (nv ks) = decide (k ∈ ks) := by
  unfold inV nv zs
  rw [List.map_map, List.any_map]
  rw [Bool.eq_iff_iff, List.any_eq_true, decide_eq_true_eq]
  constructor
  · rintro ⟨x, hx, e⟩
    have e' : ((x : Nat) : Int) = (k : Int) := by simpa [eqV, Function.comp_def] using e
    have : x = k := Int.ofNat.inj e'
    rw [← this]
    exact hx
  · intro h
    exact ⟨k, h, by simp [eqV, Function.comp_def]⟩
theorem nv_flat (ks : List Nat) : (nv ks).all flatV = true := by
  unfold nv
  rw [List.all_map]
  exact List.all_eq_true.mpr fun _ _ => rfl
theorem sz_le {n : Nat} (h : n ≤ 1000) : n ≤ sizeLine := Nat.le_of_lt (small1000 h)
theorem len_le {n : Nat} (h : n ≤ 1000) : n < sizeLine := small1000 h
end FT
set_option Elab.async false
set_option linter.all false
set_option maxRecDepth 100000
set_option maxHeartbeats 4000000
/-! enumerate of a tuple, walked by a for -/
namespace FT
open PySem PySem.Spec PyProof.Rows L2
/-- enumerate(v) makes two objects -/
theorem meets_enum_one {v : Value} {o : Obj} {H : Heap → Prop} (B : Begins v o H) :
    Meets (Builtin.«enumerate.__new__» ⟨[.type "enumerate", v], []⟩) (fun _ R s => H s.heap ∧
      R (.ok (.ret (.ref (s.heap.push o).objs.size))) { s with heap := (s.heap.push o).push { cls := .type "enumerate", data := .fields #[.none, .bool false, .ref s.heap.objs.size, rawInt 0, .none, .none] } }) :=
  .of_wp fun prog w A R s h => by
    obtain ⟨hp, g, d, tk, os⟩ := s
    obtain ⟨h1, h⟩ := h
    have hsub := sub_enumerate
    have it : ∀ {A' : Around} {E : Value → Shared → Prop} {Q : Value → Shared → Prop}, Q (.ref hp.objs.size) ⟨hp.push o, g, d, tk, os⟩ → wpAny (model prog w) A' (pyIter v) Q E ⟨hp, g, d, tk, os⟩ :=
      fun q => B.iter prog w _ _ ⟨hp, g, d, tk, os⟩ _ h1 q
    wp_walk using it
    refine wpAny_stack_any fun st => wpAny_pure ?_
    split
    · rename_i c _ _ _ _ _
      cases (c == Value.type "enumerate") <;> (wp_walk using it; exact ⟨_, rfl, h⟩)
    · wp_walk using it
      exact ⟨_, rfl, h⟩
section
variable {prog : Program} {w : World} {A : Around} {E : Value → Shared → Prop} {s : Shared}
theorem call_enum_tup {t : Addr} {items : Array Value} {Q : Value → Shared → Prop} (ht : s.heap.IsTuple t items)
    (h : ∀ h', IsEnum h' (s.heap.objs.size + 1) s.heap.objs.size 0 .none → h'.IsTupleIter s.heap.objs.size t 0 → (∀ b o, s.heap.get? b = some o → h'.get? b = some o) → Q (.ref (s.heap.objs.size + 1)) { s with heap := h' }) :
    wpAny (model prog w) A (call (.type "enumerate") [.ref t]) Q E s := by
  refine callType_new F.called_enumerate (by decide) (F.typeCall_enumerate_1 _) (F.newCall_enumerate_1 _) (fun obj => F.args_object_init_2 obj _) F.entry_enumerate_new (meets_enum_one (begins_tuple t items)) ⟨ht, ?_⟩
  have sz : (s.heap.push { cls := .type "tuple_iterator", data := .fields #[.ref t, .int 0 0] }).objs.size = s.heap.objs.size + 1 := Heap.size_push ..
  show _ ∧ _
  rw [sz]
  have he := Heap.get?_push_size (s.heap.push { cls := .type "tuple_iterator", data := .fields #[.ref t, .int 0 0] }) (o := { cls := .type "enumerate", data := .fields #[.none, .bool false, .ref s.heap.objs.size, rawInt 0, .none, .none] }) rfl
  rw [sz] at he
  exact ⟨⟨_, he, rfl⟩, h _ he ⟨_, Heap.get?_push_of_some _ (Heap.get?_push_size _ rfl), rfl, rfl⟩ fun b o x => Heap.get?_push_of_some _ (Heap.get?_push_of_some _ x)⟩
end
/-- the tuple at a, each item in a new pair -/
def Ien (K : PySem.W.Frag) (a : Addr) : It :=
  ⟨fun i H => ∃ (xs : List V) (x : V), SqT K H a xs ∧ xs[i]? = some x, fun i H v H' => ∃ T x, v = .ref T ∧ H T = none ∧ H' = upd H T (.tup [.int (i : Nat), x]) ∧ ∀ xs, SqT K H a xs → xs[i]? = some x, fun i H => ∃ xs : List V, SqT K H a xs ∧ xs.length ≤ i⟩
theorem turn_en {P : Program} {w : World} {K : PySem.W.Frag} {elts : List Expr} {kk : Nat} {tpos : Pos} (a e it : Addr) (hea : e ≠ a) (hai : a ≠ it) (hei : e ≠ it) :
    Turn P w K (.Tuple elts kk tpos) (Ien K a) [e, it] e (fun i h => (∃ old, IsEnum h e it ((i : Nat) : Int) old) ∧ h.IsTupleIter it a i) where
  mem := by simp
  obj := fun i h st b hb => by
    obtain ⟨⟨old, he⟩, ⟨o, ho, hc, hd⟩⟩ := st
    rcases List.mem_cons.mp hb with z | z
    · rw [z]
      exact ⟨_, he, fun v q => nomatch q⟩
    · rw [List.mem_singleton.mp z]
      exact ⟨o, ho, fun v q => by rw [hd] at q; cases q⟩
  keep := fun i h h' st k => let ⟨⟨old, he⟩, hi⟩ := st; ⟨⟨old, k e (by simp) _ he⟩, hi.at fun o q => k it (by simp) o q⟩
  item := by
    intro X hP hw hK hc i pins s σ H E I hf st hg
    subst hP hw hK
    obtain ⟨⟨old, he⟩, hit⟩ := st
    obtain ⟨xs, x, hq, hx⟩ := hg
    obtain ⟨its, rv, p, hz⟩ := I.tuple hq
    have hi : i < its.toArray.size := by
      rw [List.size_toArray, ← rv.length]
      exact (List.getElem?_eq_some_iff.mp hx).1
    have hel : e < s.heap.objs.size := Heap.lt_size he
    have hil : it < s.heap.objs.size := by obtain ⟨_, q, _⟩ := hit; exact Heap.lt_size q
    have nin : e ∉ [it, a] := fun q => by
      rcases List.mem_cons.mp q with q | q
      · exact hei q
      · exact hea (List.mem_singleton.mp q)
    refine wpAny_pyNext_enum_itemD (Draws.tuple (show X.A.in1.handled = none from I.ok.hd hc) it a hai its.toArray) he ⟨hit, p⟩ hi hei nin fun u h' tk hu ho hit' hT hsz hk => ?_
    obtain ⟨u', hu', ru⟩ := rv.get hx
    have eu : u = u' := by
      have e1 : its[i]? = some u := by simpa using hu
      rw [hu'] at e1
      exact (Option.some.inj e1).symm
    subst eu
    refine ⟨_, rfl, wpAny_letOwnedTupleGo_enum (s := { s with heap := h', toks := tk + 1 }) ho fun h'' he' sb => ?_⟩
    have hT2 : h''.get? s.heap.objs.size = some { cls := .type "tuple", data := .seq #[.int i tk, u] } := (sb.2 _ (Nat.ne_of_gt hel)).trans hT
    have new : ObjOk X.prog X.w (upd H s.heap.objs.size (.tup [.int (i : Nat), x])) h'' s.heap.objs.size (.tup [.int (i : Nat), x]) :=
      ⟨by show 2 ≤ sizeLine; decide, [.int i tk, u], .cons ⟨_, rfl⟩ (.cons ru .nil), ⟨_, hT2, rfl, _, rfl⟩⟩
    have I1 : Inv X pins σ (upd H s.heap.objs.size (.tup [.int (i : Nat), x])) { s with heap := h'', toks := tk + 1 } :=
      I.turnedNew (ch := [e, it]) (fun b ob hb q => (sb.2 b (fun z => hb (by simp [z]))).trans (hk b ob (fun z => hb (by simp [z])) (fun z => hb (by simp [z])) q)) hf (Nat.le_refl _) new
    refine ⟨.ref s.heap.objs.size, _, I1, rfl, ⟨_, x, rfl, I.hok.fresh (Nat.le_refl _), rfl, fun ys hy => by rw [I.tuple_inj hy hq]; exact hx⟩, ⟨⟨u, ?_⟩, hit'.1.at fun o q => (sb.2 it (Ne.symm hei)).trans q⟩, fun b hb => ?_⟩
    · have e1 : ((i + 1 : Nat) : Int) = (i : Int) + 1 := by omega
      rw [e1]
      exact he'
    · have hb' : b < s.heap.objs.size := by
        rcases List.mem_cons.mp hb with z | z
        · rw [z]
          exact hel
        · rw [List.mem_singleton.mp z]
          exact hil
      rw [upd_ne (Nat.ne_of_lt hb')]
      exact (hf b hb).1
  done := by
    intro X hP hw hK hc i pins s σ H E I hf st hg
    subst hP hw hK
    obtain ⟨⟨old, he⟩, hit⟩ := st
    obtain ⟨xs, hq, hx⟩ := hg
    obtain ⟨its, rv, p, hz⟩ := I.tuple hq
    obtain ⟨f0, f1, f2, f3, f4, f5⟩ := hf it (by simp)
    have hl := rv.length
    have fin : wpAny (model X.prog X.w) X.A (pyNext (.ref e)) (fun r s1 => r = none ∧ Inv X pins σ H s1) E s := by
      have hT : s.TypeIs (.ref e) "enumerate" := ⟨_, he, rfl⟩
      unfold pyNext
      refine wpAny_bind (wpAny_attempt (wpAny_callSpecial?_slot (name := Str.ofString "__next__") hT F.slot_enumerate_next (wpAny_call_entry F.slot_enumerate_next hT F.entry_enumerate_next ?_ (F.args_enumerate_next_1 _))))
      show wpAny _ _ (field (.ref e) 2 >>= _) _ _ _
      refine wpAny_bind (wpAny_field he rfl (x := .ref it) rfl ?_)
      refine wpAny_bind (wpAny_nextOf_tuple_end (show X.A.in1.handled = none from I.ok.hd hc) hit p (by simp; omega) fun h' x he' hx' => ?_)
      obtain ⟨o, ho, hc'⟩ := hx'
      refine wpAny_bind (wpAny_isInstance (T := "StopIteration") (b := true) ⟨o, ho, hc'⟩ isSubtype_stop ?_)
      exact wpAny_pure ⟨rfl, I.turned (t' := s.toks) (fun b o hb q => he' b o hb q) f0 f1 f3 f4 f5⟩
    exact fin
  self := fun A i s Q E st h => let ⟨⟨_, he⟩, _⟩ := st; wpAny_pyIter_enum he h
def iEnumT (K : PySem.W.Frag) (ta : TA) : TI := fun σ H R => ta σ H fun vs H1 => ∃ a xs, vs = [.ref a] ∧ SqT K H1 a xs ∧ R (Ien K a) H1
theorem pi_enumT {X : Cx} {e : Expr} {ta : TA} {p pos tpos : Pos} {elts : List Expr} {kk : Nat} (hg : Gl X "enumerate") (hm : X.mg "enumerate" = none) (ha : PA X [e] ta) (hs : starEach [e] X.env = [(false, eval e X.env)] := by rfl) :
    PI X (.Tuple elts kk tpos) (.Call (.Name "enumerate" p) [e] [] pos) (iEnumT X.K ta) := by
  refine ⟨fun pins s σ H R I h => ?_⟩
  refine Call_ (ld_blt I hg hm boot_enumerate (PyProof.Rows.callWith_type1 (thn (ha.run pos pins s σ H _ I h) fun us s1 ⟨vs, H1, I1, r1, q1⟩ => ?_) hs rfl))
  obtain ⟨a, xs, ex, hq, q⟩ := q1
  subst ex
  rw [Vals.ref1 r1]
  obtain ⟨its, rv, pt, hz⟩ := I1.tuple hq
  have hal : a < s1.heap.objs.size := by obtain ⟨o, ho, _⟩ := id pt; exact Heap.lt_size ho
  refine call_enum_tup (show s1.heap.IsTuple a its.toArray from pt) fun h' he hit hk => wpAny_pyIter_enum he ?_
  have I2 : Inv X pins σ H1 { s1 with heap := h' } := I1.kept (t' := s1.toks) hk
  refine ⟨s1.heap.objs.size + 1, [s1.heap.objs.size + 1, s1.heap.objs.size], _, _, H1, rfl, I2, turn_en a (s1.heap.objs.size + 1) s1.heap.objs.size (Nat.ne_of_gt (Nat.lt_succ_of_lt hal)) (Nat.ne_of_lt hal) (Nat.succ_ne_self _), ⟨⟨.none, he⟩, hit⟩, fun b hb => ?_, q⟩
  have hle : s1.heap.objs.size ≤ b := by
    rcases List.mem_cons.mp hb with z | z
    · rw [z]
      exact Nat.le_add_right _ _
    · rw [List.mem_singleton.mp z]
      exact Nat.le_refl _
  exact I1.fpOk hle (I1.hok.fresh hle)
theorem walk_en {K : PySem.W.Frag} {a : Addr} {xs : List V} : Walk (Ien K a) xs.length (fun H => SqT K H a xs) (YPair (fun i => some (.int (i : Nat))) (fun i => xs[i]?)) := by
  refine ⟨fun i _ hi q => ⟨xs, xs[i], q, by simp [hi]⟩, fun _ q => ⟨xs, q, Nat.le_refl _⟩, fun i H v H' _ q y => ?_⟩
  obtain ⟨T, x, h1, h2, h3, h4⟩ := y
  exact ⟨T, .int (i : Nat), x, h1, h2, h3, rfl, h4 xs q⟩
end FT
set_option Elab.async false
set_option linter.all false
set_option maxRecDepth 100000
set_option maxHeartbeats 4000000
namespace FT
open PySem PySem.Spec PyProof.Rows L2
section
variable {P : Program} {w : World} {K : PySem.W.Frag} {mg : Str → Option Value} {base : Heap}
/-! ### is_in, flanks, is_flanked, _law_alike -/
def spIsIn : Sp := fun vs H Q _ => ∃ v lo hi : Int, vs = [.int v, .int lo, .int hi] ∧ Q (.bl (decide (lo ≤ v) && decide (v ≤ hi))) H
theorem kn_isin (T : Tp K mg) : Kn P w K mg base 1 "is_in" ps_isin spIsIn := by
  refine kn_of T.d_isin sc_isin (fun vs H Q E h => ?_) (fun f cdv A outer s H vs Q E hr h => ?_)
  · obtain ⟨v, lo, hi, rfl, _⟩ := h
    rfl
  obtain ⟨v, lo, hi, rfl, q⟩ := h
  refine ⟨_, pss_one (ps_ret (pe_and (pe_isi (T := "int") (pv 0) T.n_isinstance T.n_int) (pe_and (pe_not (pe_isi (T := "bool") (pv 0) T.n_isinstance T.n_bool)) (pe_one (pe_chain op_le op_le (pv 1) (pv 0) (pv 2)))))), ?_⟩
  refine ⟨_, rfl, _, _, _, _, true, rfl, .ty _, .base (.int v), kit_ty (by decide +kernel), true, rfl, iteT ?_⟩
  refine ⟨_, rfl, _, _, _, _, false, rfl, .ty _, .base (.int v), kit_ty (by decide +kernel), false, rfl, true, rfl, iteT ?_⟩
  refine ⟨_, rfl, _, rfl, _, _, rfl, rfl, _, rfl, ?_⟩
  refine ite2 (fun c => ?_) (fun c => ?_)
  · refine ⟨_, rfl, _, _, rfl, rfl, ?_⟩
    have e : (decide (lo ≤ v) && decide (v ≤ hi)) = decide (v ≤ hi) := by rw [c, Bool.true_and]
    rw [e] at q
    exact q
  · have e : (decide (lo ≤ v) && decide (v ≤ hi)) = false := by rw [Bool.eq_false_iff.mpr c, Bool.false_and]
    rw [e] at q
    exact q
theorem lft_int {n k : Nat} (h : k < n) : (((k : Nat) : Int) - 1) % ((n : Nat) : Int) = ((lft n k : Nat) : Int) := by
  rw [lft_eq h]
  split
  · rename_i e
    subst e
    have : ((0 : Nat) : Int) - 1 = -1 := by omega
    rw [this, ← Int.add_emod_right, Int.emod_eq_of_lt (by omega) (by omega)]
    omega
  · rw [Int.emod_eq_of_lt (by omega) (by omega)]
    omega
theorem rgt_int {n k : Nat} (h : k < n) : (((k : Nat) : Int) + 1) % ((n : Nat) : Int) = ((rgt n k : Nat) : Int) := by
  rw [rgt_eq h]
  split
  · rename_i e
    have : ((k : Nat) : Int) + 1 = ((n : Nat) : Int) := by omega
    rw [this, Int.emod_self]
    rfl
  · rw [Int.emod_eq_of_lt (by omega) (by omega)]
    omega
def spFlanks : Sp := fun vs H Q _ => ∃ n k : Nat, vs = [.int (n : Int), .int (k : Int)] ∧ k < n ∧ ∀ p, H p = none → Q (.ref p) (upd H p (.tup (nv [lft n k, rgt n k])))
theorem kn_flanks (T : Tp K mg) : Kn P w K mg base 1 "flanks" ps_flanks spFlanks := by
  refine kn_of T.d_flanks sc_flanks (fun vs H Q E h => ?_) (fun f cdv A outer s H vs Q E hr h => ?_)
  · obtain ⟨n, k, rfl, _⟩ := h
    rfl
  obtain ⟨n, k, rfl, hk, q⟩ := h
  refine ⟨_, pss_one (ps_ret (pe_tup (pa_cons (pe_op op_mod (pe_op op_sub (pv 1) pe_int) (pv 0)) (pa_cons (pe_op op_mod (pe_op op_add (pv 1) pe_int) (pv 0)) pa_nil)))), ?_⟩
  have hn : (0 : Int) < ((n : Nat) : Int) := by omega
  refine ⟨_, rfl, _, _, rfl, rfl, _, rfl, _, _, rfl, rfl, hn, ?_⟩
  refine ⟨_, rfl, _, _, rfl, rfl, _, rfl, _, _, rfl, rfl, hn, ?_⟩
  refine ⟨(by show 2 ≤ sizeLine; decide), fun p hp => ?_⟩
  have e : ([.int ((((k : Nat) : Int) - 1) % ((n : Nat) : Int)), .int ((((k : Nat) : Int) + 1) % ((n : Nat) : Int))] : List V) = nv [lft n k, rgt n k] := by
    rw [lft_int hk, rgt_int hk]
    rfl
  have := q p hp
  rw [← e] at this
  exact this
def spFlanked : Sp := fun vs H Q _ => ∃ (c : Addr) (cs : List Nat) (k : Nat), vs = [.ref c, .int (k : Int)] ∧ H c = some (.tup (nv cs)) ∧ k < cs.length ∧ ∀ H', Same H H' → Q (.bl (flk cs.length cs k)) H'
theorem kn_flanked (T : Tp K mg) : Kn P w K mg base 2 "is_flanked" ps_isflanked spFlanked := by
  refine kn_of T.d_isflanked sc_isflanked (fun vs H Q E h => ?_) (fun f cdv A outer s H vs Q E hr h => ?_)
  · obtain ⟨c, cs, k, rfl, _⟩ := h
    rfl
  obtain ⟨c, cs, k, rfl, hc, hk, q⟩ := h
  refine ⟨_, pss_cons (ps_asg (pe_kn (kn_flanks T) hr (pa_cons (pe_callB call_len_seq rfl T.n_len PySem.boot_len (pa_cons (pv 0) pa_nil)) (pa_cons (pv 1) pa_nil)))
      (pg_tup (by rfl) (pgs_cons (pg_name (i := 2) sc_isflanked.nd rfl (.inl rfl)) (pgs_cons (pg_name (i := 3) sc_isflanked.nd rfl (.inl rfl)) pgs_nil))))
    (pss_one (ps_ret (pe_chain op_eq op_ne (pe_ix ix_tup (pv 0) (pv 2) (fun _ _ => rfl)) (pe_ix ix_tup (pv 0) (pv 3) (fun _ _ => rfl)) (pe_ix ix_tup (pv 0) (pv 1) (fun _ _ => rfl))))), ?_⟩
  have el : (((nv cs).length : Nat) : Int) = ((cs.length : Nat) : Int) := by rw [nv_length]
  refine ⟨_, rfl, c, _, rfl, .inr (SqT.of hc), _, rfl, cs.length, k, by rw [el] <;> rfl, hk, fun p hp => ?_⟩
  have hc' : upd H p (.tup (nv [lft cs.length k, rgt cs.length k])) c = some (.tup (nv cs)) := same_new hp _ _ _ hc
  refine ⟨p, _, rfl, SqT.of upd_same, rfl, _, _, rfl, _, _, rfl, rfl, ?_⟩
  have L := lft_lt hk
  have R := rgt_lt hk
  refine ⟨_, rfl, _, rfl, c, _, _, _, rfl, rfl, SqT.of hc', nv_at L, _, rfl, _, rfl, c, _, _, _, rfl, rfl, SqT.of hc', nv_at R, rfl, _, rfl, ?_⟩
  have dz : ∀ x y : Nat, decide (V.int (x : Int) = V.int (y : Int)) = decide (x = y) := fun x y => by
    rw [decide_eq_decide]
    constructor
    · intro e
      injection e with e
      exact Int.ofNat.inj e
    · intro e
      rw [e]
  have q1 := q _ (same_new hp (.tup (nv [lft cs.length k, rgt cs.length k])))
  unfold flk at q1
  refine ite2 (fun c1 => ?_) (fun c1 => ?_)
  · rw [dz] at c1
    refine ⟨_, rfl, _, rfl, c, _, _, _, rfl, rfl, SqT.of hc', nv_at hk, rfl, ?_⟩
    rw [c1, Bool.true_and] at q1
    rw [dz]
    exact q1
  · rw [dz] at c1
    rw [Bool.eq_false_iff.mpr c1, Bool.false_and] at q1
    exact q1
def spAlike : Sp := fun vs H Q _ => ∃ a b : Int, vs = [.int a, .int b] ∧ ∀ H', Same H H' → Q (.bl (decide (a = b))) H'
end
end FT
set_option Elab.async false
set_option linter.all false
set_option maxRecDepth 100000
set_option maxHeartbeats 4000000
namespace FT
open PySem PySem.Spec PyProof.Rows L2
section
variable {P : Program} {w : World} {K : PySem.W.Frag} {mg : Str → Option Value} {base : Heap}
theorem kn_alike (T : Tp K mg) : Kn P w K mg base 1 "_law_alike" ps_Lalike spAlike := by
  refine kn_of T.d_Lalike sc_Lalike (fun vs H Q E h => ?_) (fun f cdv A outer s H vs Q E hr h => ?_)
  · obtain ⟨a, b, rfl, _⟩ := h
    rfl
  obtain ⟨a, b, rfl, q⟩ := h
  refine ⟨_, pss_cons (ps_if (pt_val (pe_callB call_isiT rfl T.n_isinstance (by decide +kernel) (pa_cons (pv 1) (pa_cons (pe_tup (pa_cons (pe_bltn (v := .ty "tuple") rfl T.n_tuple (by decide +kernel) rfl) (pa_cons (pe_bltn (v := .ty "list") rfl T.n_list (by decide +kernel) rfl) pa_nil))) pa_nil))))
      pss_never pss_nil)
    (pss_cons (ps_if (PW.pt (pw_or (pt_cmp (pc_isN (pv 1))) (pw_or1 (pt_val (pe_isi (T := "str") (pv 1) T.n_isinstance T.n_str))))) pss_never pss_nil)
    (pss_one (ps_ret (pe_and (pe_isi (T := "int") (pv 0) T.n_isinstance T.n_int) (pe_and (pe_cmpR op_eq (pe_isi (T := "bool") (pv 0) T.n_isinstance T.n_bool) (pe_isi (T := "bool") (pv 1) T.n_isinstance T.n_bool) (nomark _)) (pe_one (pe_cmpR op_eq (pv 0) (pv 1) (nomark _)))))))), ?_⟩
  refine ⟨_, rfl, (by show 2 ≤ sizeLine; decide), fun t ht => ?_⟩
  refine ⟨_, t, [.ty "tuple", .ty "list"], .type "int", [.type "tuple", .type "list"], false, rfl, upd_same, .cons (.ty _) (.cons (.ty _) .nil), .base (.int b),
    kitAny_cons (kit_ty (b := "tuple") (r := false) (by decide +kernel)) (fun _ => kitAny_cons (kit_ty (b := "list") (r := false) (by decide +kernel)) (fun _ => kitAny_nil) (fun z => nomatch z)) (fun z => nomatch z), false, rfl, iteF ?_⟩
  refine ⟨_, rfl, _, rfl, iteF ?_⟩
  refine ⟨_, rfl, _, _, _, _, false, rfl, .ty _, .base (.int b), kit_ty (by decide +kernel), false, rfl, iteF ?_⟩
  refine ⟨_, rfl, _, _, _, _, true, rfl, .ty _, .base (.int a), kit_ty (by decide +kernel), true, rfl, iteT ?_⟩
  refine ⟨_, rfl, _, _, _, _, false, rfl, .ty _, .base (.int a), kit_ty (by decide +kernel), _, rfl, _, _, _, _, false, rfl, .ty _, .base (.int b), kit_ty (by decide +kernel), rfl, true, rfl, iteT ?_⟩
  refine ⟨_, rfl, _, rfl, rfl, ?_⟩
  have e : decide (V.int a = V.int b) = decide (a = b) := by
    rw [decide_eq_decide]
    constructor
    · intro e
      injection e
    · intro e
      rw [e]
  rw [e]
  exact q _ (same_new ht _)
end
end FT
set_option Elab.async false
set_option linter.all false
set_option maxRecDepth 100000
set_option maxHeartbeats 4000000
namespace FT
open PySem PySem.Spec PyProof.Rows L2
section
variable {P : Program} {w : World} {K : PySem.W.Frag} {mg : Str → Option Value} {base : Heap}
/-! ### lines; is_cells, held_in -/
def LnAt (H : Hp) (l : Addr) (cs hd : List Nat) (rg : Bool) : Prop := ∃ c h, H l = some (.tup [.ref c, .ref h, .bl rg]) ∧ H c = some (.tup (nv cs)) ∧ H h = some (.tup (nv hd))
theorem LnAt.same {H H' : Hp} {l : Addr} {cs hd : List Nat} {rg : Bool} (e : Same H H') (h : LnAt H l cs hd rg) : LnAt H' l cs hd rg := by
  obtain ⟨c, g, h1, h2, h3⟩ := h
  exact ⟨c, g, e _ _ h1, e _ _ h2, e _ _ h3⟩
structure Lok (cs hd : List Nat) (rg : Bool) : Prop where
  n1 : 1 ≤ cs.length
  n11 : cs.length ≤ 11
  r3 : rg = true → 3 ≤ cs.length
  c9 : ∀ c ∈ cs, c ≤ 9
  hs : Sub cs.length hd
def heldL (n : Nat) (hd : List Nat) (rg : Bool) : List Nat := (List.range n).filter (hld n hd rg)
theorem sub_sorted {n : Nat} {R : List Nat} (h : Sub n R) : R.Pairwise (· < ·) := by
  obtain ⟨p, rfl⟩ := h
  exact List.pairwise_lt_range.filter _
theorem sub_len {n : Nat} {R : List Nat} (h : Sub n R) : R.length ≤ n := by
  obtain ⟨p, rfl⟩ := h
  have := List.length_filter_le p (List.range n)
  rw [List.length_range] at this
  exact this
theorem zs_sorted {R : List Nat} (h : R.Pairwise (· < ·)) : (zs R).Pairwise (· < ·) := by
  unfold zs
  rw [List.pairwise_map]
  exact h.imp fun h => Int.ofNat_lt.mpr h
theorem mem_zs {R : List Nat} {k : Int} : k ∈ zs R ↔ ∃ j : Nat, j ∈ R ∧ ((j : Nat) : Int) = k := List.mem_map
/-- two ascending lists with the same members are one -/
theorem sorted_one {l m : List Int} (h1 : l.Pairwise (· < ·)) (h2 : m.Pairwise (· < ·)) (h : ∀ x, x ∈ l ↔ x ∈ m) : l = m := by
  have n1 : l.Nodup := h1.imp fun h => Int.ne_of_lt h
  have n2 : m.Nodup := h2.imp fun h => Int.ne_of_lt h
  exact List.Perm.eq_of_pairwise (fun a b _ _ x y => absurd (Int.lt_trans x y) (Int.lt_irrefl _)) h1 h2 ((List.perm_ext_iff_of_nodup n1 n2).mpr h)
theorem dp_ints {H : Hp} : ∀ ns : List Int, DpAll K H (ns.map V.int) (ns.map PyData.int)
  | [] => .nil
  | n :: ns => .cons (.int n) (dp_ints ns)
theorem dp_lst {H : Hp} {a : Addr} {ns : List Int} (h : H a = some (.lst (ns.map V.int))) : Dp K H (.ref a) (.list (ns.map PyData.int)) := .lst (SqL.of h) (dp_ints ns)
theorem lay_ints : ∀ ns : List Int, PyData.canLayAll0 (ns.map PyData.int) = true
  | [] => by simp [PyData.canLayAll0]
  | n :: ns => by
    rw [List.map_cons, PyData.canLayAll0, lay_ints ns]
    simp [PyData.canLay0]
theorem deep_ints : ∀ ns : List Int, PyData.depthAll (ns.map PyData.int) = 0
  | [] => by simp [PyData.depthAll]
  | n :: ns => by
    rw [List.map_cons, PyData.depthAll, deep_ints ns]
    simp [PyData.depth]
theorem lay_list (ns : List Int) : PyData.canLay0 (.list (ns.map PyData.int)) = true := by
  rw [PyData.canLay0]
  exact lay_ints ns
theorem lay_tup (ns : List Int) : PyData.canLay0 (.tuple (ns.map PyData.int)) = true := by
  rw [PyData.canLay0]
  exact lay_ints ns
theorem shaped_ints (ns : List Int) : SeqAt.shaped (.list (ns.map PyData.int)) = true := by
  unfold SeqAt.shaped
  rw [lay_list, PyData.depth, deep_ints]
  rfl
theorem shaped_tup (ns : List Int) : SeqAt.shaped (.tuple (ns.map PyData.int)) = true := by
  unfold SeqAt.shaped
  rw [lay_tup, PyData.depth, deep_ints]
  rfl
def spIsCells : Sp := fun vs H Q _ => ∃ (n : Nat) (h : Addr) (hd : List Nat), vs = [.int (n : Int), .ref h] ∧ H h = some (.tup (nv hd)) ∧ Sub n hd ∧ n ≤ 40 ∧ ∀ H', Same H H' → Q (.bl true) H'
theorem kn_iscells (T : Tp K mg) : Kn P w K mg base 2 "is_cells" ps_iscells spIsCells := by
  refine kn_of T.d_iscells sc_iscells (fun vs H Q E h => ?_) (fun f cdv A outer s H vs Q E hr h => ?_)
  · obtain ⟨n, h, hd, rfl, _⟩ := h
    rfl
  obtain ⟨n, h, hd, rfl, hh, hs, hn, q⟩ := h
  refine ⟨_, pss_cons (ps_if (PW.pt (pw_or (pt_not (pt_val (pe_isi (T := "tuple") (pv 1) T.n_isinstance T.n_tuple)))
      (pw_or1 (pt_cmpR (op_neD hr.units) (pe_lc (own := [("x", 2)]) (g := gName 2) rfl sc_iscells.nd (pi_tup (pv 1)) (blkOk_by (own := [("x", 2)]) (N := ns_iscells) (sc := defScope s_iscells) (by decide +kernel))
        (fun _ _ _ _ _ => pg_name (i := 2) sc_iscells.nd rfl (Or.inl rfl)) (fun _ _ _ _ _ => pts_one (pt_not (pt_val (pe_kn (kn_isin T) hr (pa_cons (pv 2) (pa_cons pe_int (pa_cons (pe_op op_sub (pv 0) pe_int) pa_nil))))))) (fun _ _ _ _ _ => pv 2)) (pe_lst pa_nil) (nomark _)))))
      (pss_one (ps_ret pe_bl)) pss_nil)
    (pss_one (ps_ret (pe_cmpR (op_eqD hr.units) (pe_callTy call_list_of rfl T.n_list (by decide +kernel) (pa_cons (pv 1) pa_nil))
      (pe_callB (cr_sortedSet rfl) rfl T.n_sorted (by decide +kernel) (pa_cons (pe_callTy (cr_setI rfl) rfl T.n_set (by decide +kernel) (pa_cons (pv 1) pa_nil)) pa_nil)) (nomark _)))), ?_⟩
  refine ⟨_, rfl, _, _, _, _, true, rfl, .ty _, .base (.tup hh), kit_ty (by decide +kernel), true, rfl, iteF ?_⟩
  -- no item is out of place
  refine ⟨_, rfl, h, rfl, ⟨_, SqT.of hh⟩, fun D nD => ?_⟩
  refine lc_tup (K := K) (a := h) (xs := nv hd) (fun _ H' => Same H H' ∧ H' D = some (.lst [])) ⟨same_new nD _, upd_same⟩ (fun i H' _ p => SqT.of (p.1 _ _ hh)) (fun i x H' hx p => ?_) (fun H' p => ?_)
  · obtain ⟨hi, e⟩ := List.getElem?_eq_some_iff.mp hx
    rw [nv_length] at hi
    rw [nv_get hi] at hx
    cases hx
    have hk : hd.getD i 0 < n := hs.lt (by rw [List.getD_eq_getElem?_getD, List.getElem?_eq_getElem hi]; exact List.getElem_mem hi)
    refine ⟨rfl, _, rfl, _, rfl, _, _, rfl, rfl, _, _, _, rfl, ?_⟩
    have e : (decide ((0 : Int) ≤ ((hd.getD i 0 : Nat) : Int)) && decide (((hd.getD i 0 : Nat) : Int) ≤ ((n : Nat) : Int) - 1)) = true := by
      rw [Bool.and_eq_true, decide_eq_true_eq, decide_eq_true_eq]
      omega
    rw [e]
    exact ⟨true, rfl, iteF p⟩
  -- [] != []
  refine ⟨Nat.zero_le _, fun z nz => ?_⟩
  refine ⟨.list [], .list [], .lst (SqL.of (same_new nz _ _ _ p.2)) .nil, .lst (SqL.of upd_same) .nil, rfl, rfl, false, rfl, iteF ?_⟩
  have s1 : Same H (upd H' z (.lst [])) := p.1.trans (same_new nz _)
  -- list(value) == sorted(set(value))
  refine ⟨_, rfl, h, _, rfl, .inr (SqT.of (s1 _ _ hh)), fun l nl => ?_⟩
  have s2 := s1.trans (same_new nl (.lst (nv hd)))
  refine ⟨_, rfl, h, zs hd, rfl, .inr (SqT.of (s2 _ _ hh)), ?_, fun p2 c hc np => ?_⟩
  · have := sub_len hs
    unfold zs
    rw [List.length_map]
    omega
  refine ⟨p2, _, c, rfl, upd_same, ?_, fun ns p3 asc mem len np3 => ?_⟩
  · have := sub_len hs
    unfold zs at hc
    rw [List.length_map] at hc
    omega
  have e : ns = zs hd := sorted_one asc (zs_sorted (sub_sorted hs)) fun k => by rw [mem k, decide_eq_true_eq]
  subst e
  have nlp : l ≠ p2 := ne_of_none upd_same np
  have gl := same_new np3 (.lst (nv hd)) _ _ (same_new np (SetO w p2 (fun j => decide (j ∈ zs hd)) c) _ _ (upd_same (H := upd H' z (.lst [])) (a := l) (o := .lst (nv hd))))
  refine ⟨_, _, dp_lst (ns := zs hd) gl, dp_lst (ns := zs hd) upd_same, shaped_ints _, shaped_ints _, ?_⟩
  show Q (.bl (PyData.eqv (.list ((zs hd).map PyData.int)) (.list ((zs hd).map PyData.int)))) _
  rw [SeqAt.eqv_refl _ (lay_list _)]
  exact q _ ((s2.trans (same_new np _)).trans (same_new np3 _))
def spHeldIn : Sp := fun vs H Q _ => ∃ (l : Addr) (cs hd : List Nat) (rg : Bool), vs = [.ref l] ∧ LnAt H l cs hd rg ∧ Lok cs hd rg ∧ ∀ H' p, Same H H' → H' p = some (.lst (nv (heldL cs.length hd rg))) → Q (.ref p) H'
theorem mem_heldL {n : Nat} {hd : List Nat} {rg : Bool} {k : Nat} : k ∈ heldL n hd rg ↔ k < n ∧ hld n hd rg k = true := by
  unfold heldL
  rw [List.mem_filter, List.mem_range]
theorem kn_heldin (T : Tp K mg) : Kn P w K mg base 1 "held_in" ps_heldin spHeldIn := by
  refine kn_of T.d_heldin sc_heldin (fun vs H Q E h => ?_) (fun f cdv A outer s H vs Q E hr h => ?_)
  · obtain ⟨l, cs, hd, rg, rfl, _⟩ := h
    rfl
  obtain ⟨l, cs, hd, rg, rfl, ⟨c, h, hl, hc, hh⟩, ok, q⟩ := h
  refine ⟨_, pss_cons (ps_asg (pv 0) (pg_tup (by rfl) (pgs_cons (pg_name (i := 1) sc_heldin.nd rfl (.inl rfl)) (pgs_cons (pg_name (i := 2) sc_heldin.nd rfl (.inl rfl)) (pgs_cons (pg_name (i := 3) sc_heldin.nd rfl (.inl rfl)) pgs_nil)))))
    (pss_cons (ps_set (i := 4) sc_heldin.nd rfl (.inl rfl) (pe_ifExp (pt_val (pv 3)) (pe_lst pa_nil) (pe_lst (pa_cons pe_int (pa_cons (pe_op op_sub (pe_callB call_len_seq rfl T.n_len PySem.boot_len (pa_cons (pv 1) pa_nil)) pe_int) pa_nil)))))
    (pss_one (ps_ret (pe_callB (cr_sortedSet rfl) rfl T.n_sorted (by decide +kernel) (pa_cons (pe_callTy (cr_setI rfl) rfl T.n_set (by decide +kernel) (pa_cons (pe_op op_cat (pe_callTy call_list_of rfl T.n_list (by decide +kernel) (pa_cons (pv 2) pa_nil)) (pv 4)) pa_nil)) pa_nil))))), ?_⟩
  refine ⟨_, rfl, l, _, rfl, SqT.of hl, rfl, _, _, rfl, _, _, rfl, _, _, rfl, rfl, ?_⟩
  -- the rest, from any new list of ends
  have sub := sub_len ok.hs
  have rest : ∀ (es : List Nat) (H1 : Hp) (z : Addr), Same H H1 → H1 z = some (.lst (nv es)) → es.length ≤ 2 → (∀ k, (k ∈ hd ∨ k ∈ es) ↔ k ∈ heldL cs.length hd rg) →
      ∀ l2, H1 l2 = none → ∃ (l0 : Addr) (b : Addr) (xs ys : List V), V.ref l2 = V.ref l0 ∧ V.ref z = V.ref b ∧ upd H1 l2 (.lst (nv hd)) l0 = some (.lst xs) ∧ upd H1 l2 (.lst (nv hd)) b = some (.lst ys) ∧ xs.length + ys.length ≤ sizeLine ∧
        ∀ p, upd H1 l2 (.lst (nv hd)) p = none → rSetI K w [.ref p] (upd (upd H1 l2 (.lst (nv hd))) p (.lst (xs ++ ys))) fun v H2 => rSortedSet w [v] H2 Q := by
    intro es H1 z s1 hz hes mem l2 nl2
    have s2 : Same H1 (upd H1 l2 (.lst (nv hd))) := same_new nl2 _
    refine ⟨l2, z, _, _, rfl, rfl, upd_same, s2 _ _ hz, by rw [nv_length, nv_length]; exact sz_le (by have := ok.n11; omega), fun p np => ?_⟩
    have e : nv hd ++ nv es = (zs (hd ++ es)).map V.int := by
      unfold nv zs
      rw [List.map_append, List.map_append]
    rw [e]
    refine ⟨p, zs (hd ++ es), rfl, .inl (SqL.of upd_same), by unfold zs; rw [List.length_map, List.length_append]; have := ok.n11; omega, fun p2 cc hcc np2 => ?_⟩
    refine ⟨p2, _, cc, rfl, upd_same, ?_, fun ns p3 asc mm len np3 => ?_⟩
    · unfold zs at hcc
      rw [List.length_map, List.length_append] at hcc
      have := ok.n11
      omega
    have en : ns = zs (heldL cs.length hd rg) := sorted_one asc (zs_sorted (sub_sorted ⟨_, rfl⟩)) fun k => by
      rw [mm k, decide_eq_true_eq, mem_zs, mem_zs]
      constructor
      · rintro ⟨j, hj, ej⟩
        exact ⟨j, (mem j).mp (List.mem_append.mp hj), ej⟩
      · rintro ⟨j, hj, ej⟩
        exact ⟨j, List.mem_append.mpr ((mem j).mpr hj), ej⟩
    rw [en]
    exact q _ p3 ((((s1.trans s2).trans (same_new np _)).trans (same_new np2 _)).trans (same_new np3 _)) upd_same
  refine ⟨_, rfl, rg, rfl, ?_⟩
  cases rg with
  | true =>
    refine iteT ⟨Nat.zero_le _, fun z nz => ?_⟩
    refine ⟨_, rfl, h, _, rfl, .inr (SqT.of (same_new nz _ _ _ hh)), fun l2 nl2 => ?_⟩
    refine ⟨_, rfl, ?_⟩
    refine rest [] _ z (same_new nz _) upd_same (by decide) (fun k => ?_) l2 nl2
    rw [mem_heldL]
    unfold hld
    constructor
    · rintro (hk | hk)
      · exact ⟨ok.hs.lt hk, by simp [hk]⟩
      · exact absurd hk (by simp)
    · rintro ⟨_, hk⟩
      exact .inl (by simpa using hk)
  | false =>
    refine iteF ⟨_, rfl, c, _, rfl, .inr (SqT.of hc), _, _, rfl, rfl, (by show 2 ≤ sizeLine; decide), fun z nz => ?_⟩
    refine ⟨_, rfl, h, _, rfl, .inr (SqT.of (same_new nz _ _ _ hh)), fun l2 nl2 => ?_⟩
    refine ⟨_, rfl, ?_⟩
    have n1 := ok.n1
    have e : ([.int 0, .int (((nv cs).length : Int) - 1)] : List V) = nv [0, cs.length - 1] := by
      rw [nv_length]
      have : ((cs.length : Nat) : Int) - 1 = ((cs.length - 1 : Nat) : Int) := by omega
      rw [this]
      rfl
    refine rest [0, cs.length - 1] _ z (same_new nz _) (by rw [← e]; exact upd_same) (Nat.le_refl _) (fun k => ?_) l2 nl2
    rw [mem_heldL]
    unfold hld
    constructor
    · rintro (hk | hk)
      · exact ⟨ok.hs.lt hk, by simp [hk]⟩
      · rcases List.mem_cons.mp hk with e | hk
        · exact ⟨by omega, by simp [e]⟩
        · have e := List.mem_singleton.mp hk
          exact ⟨by omega, by simp [e]⟩
    · rintro ⟨_, hk⟩
      rw [Bool.or_eq_true] at hk
      rcases hk with hk | hk
      · exact .inl (of_decide_eq_true hk)
      · right
        have hk' : k = 0 ∨ k = cs.length - 1 := by simpa using hk
        rcases hk' with e | e <;> simp [e]
end
end FT
set_option Elab.async false
set_option linter.all false
set_option maxRecDepth 100000
set_option maxHeartbeats 4000000
namespace FT
open PySem PySem.Spec PyProof.Rows L2
section
variable {P : Program} {w : World} {K : PySem.W.Frag} {mg : Str → Option Value} {base : Heap}
/-! ### need_line, ready_in, swings_in -/
def spNeed : Sp := fun vs H Q _ => ∃ (l : Addr) (cs hd : List Nat) (rg : Bool), vs = [.ref l] ∧ LnAt H l cs hd rg ∧ Lok cs hd rg ∧ ∀ H', Same H H' → Q .non H'
theorem kn_needline (T : Tp K mg) : Kn P w K mg base 3 "need_line" ps_needline spNeed := by
  refine kn_of T.d_needline sc_needline (fun vs H Q E h => ?_) (fun f cdv A outer s H vs Q E hr h => ?_)
  · obtain ⟨l, cs, hd, rg, rfl, _⟩ := h
    rfl
  obtain ⟨l, cs, hd, rg, rfl, ⟨c, h, hl, hc, hh⟩, ok, q⟩ := h
  obtain ⟨t0, g0⟩ := T.c_MOST_CELLS
  obtain ⟨t1, g1⟩ := T.c_MOST_COLOUR
  obtain ⟨t2, g2⟩ := T.c_LEAST_RING
  refine ⟨_, pss_cons (ps_if (PW.pt (pw_or (pt_not (pt_val (pe_isi (T := "tuple") (pv 0) T.n_isinstance T.n_tuple))) (pw_or (pt_cmpR op_ne (pe_callB call_len_seq rfl T.n_len PySem.boot_len (pa_cons (pv 0) pa_nil)) pe_int (nomark _))
      (pw_or1 (pt_not (pt_val (pe_isi (T := "bool") (pe_ix ix_tup (pv 0) pe_int (fun _ _ => rfl)) T.n_isinstance T.n_bool))))))) pss_never pss_nil)
    (pss_cons (ps_asg (pv 0) (pg_tup (by rfl) (pgs_cons (pg_name (i := 1) sc_needline.nd rfl (.inl rfl)) (pgs_cons (pg_name (i := 2) sc_needline.nd rfl (.inl rfl)) (pgs_cons (pg_name (i := 3) sc_needline.nd rfl (.inl rfl)) pgs_nil)))))
    (C8.pss_cut (ps_set (i := 4) sc_needline.nd rfl (.inl rfl) (pe_ifExp (pt_val (pv 3)) (pe_glob (v := .int 3) rfl g2 ⟨_, rfl⟩) pe_int))
    (pss_cons (ps_if (PW.pt (pw_or (pt_not (pt_val (pe_isi (T := "tuple") (pv 1) T.n_isinstance T.n_tuple))) (pw_or1 (pt_not (pt_chain op_le op_le (pv 4) (pe_callB call_len_seq rfl T.n_len PySem.boot_len (pa_cons (pv 1) pa_nil)) (pe_glob (v := .int 40) rfl g0 ⟨_, rfl⟩)))))) pss_never pss_nil)
    (pss_cons (ps_for PassesOwn.never rfl (pi_enumT rfl T.n_enumerate (pa_cons (pv 1) pa_nil)) (pg_tup (by rfl) (pgs_cons (pg_name (i := 5) sc_needline.nd rfl (.inl rfl)) (pgs_cons (pg_name (i := 6) sc_needline.nd rfl (.inl rfl)) pgs_nil)))
      (pss_one (ps_if (pt_not (pt_val (pe_kn (kn_isin T) hr (pa_cons (pv 6) (pa_cons pe_int (pa_cons (pe_glob (v := .int 9) rfl g1 ⟨_, rfl⟩) pa_nil)))))) pss_never pss_nil)))
    (pss_one (ps_if (pt_not (pt_val (pe_kn (kn_iscells T) hr (pa_cons (pe_callB call_len_seq rfl T.n_len PySem.boot_len (pa_cons (pv 1) pa_nil)) (pa_cons (pv 2) pa_nil))))) pss_never pss_nil)))))), ?_⟩
  refine ⟨_, rfl, _, _, _, _, true, rfl, .ty _, .base (.tup hl), kit_ty (by decide +kernel), true, rfl, iteF ?_⟩
  refine ⟨_, rfl, l, _, rfl, .inr (SqT.of hl), rfl, false, rfl, iteF ?_⟩
  refine ⟨_, rfl, l, _, _, _, rfl, rfl, SqT.of hl, atI_nat (j := 2) rfl, ?_⟩
  refine ⟨_, _, _, _, true, rfl, .ty _, .base (.bl rg), kit_ty (by decide +kernel), true, rfl, iteF ?_⟩
  refine ⟨_, rfl, l, _, rfl, SqT.of hl, rfl, _, _, rfl, _, _, rfl, _, _, rfl, rfl, ?_⟩
  have n1 := ok.n1
  have n11 := ok.n11
  have el : (((nv cs).length : Nat) : Int) = ((cs.length : Nat) : Int) := by rw [nv_length]
  refine ⟨fun σ' H' => ∃ lo : Int, lo ≤ ((cs.length : Nat) : Int) ∧ σ' = [some (.ref l), some (.ref c), some (.ref h), some (.bl rg), some (.int lo), none, none] ∧ H' = H, ?_, ?_⟩
  · refine ⟨_, rfl, rg, rfl, ?_⟩
    cases rg with
    | true => exact iteT ⟨3, by have := ok.r3 rfl; omega, rfl, rfl⟩
    | false => exact iteF ⟨1, by omega, rfl, rfl⟩
  rintro σ' H' ⟨lo, hlo, rfl, rfl⟩
  refine ⟨_, rfl, _, _, _, _, true, rfl, .ty _, .base (.tup hc), kit_ty (by decide +kernel), true, rfl, iteF ?_⟩
  refine ⟨_, rfl, _, rfl, c, _, rfl, .inr (SqT.of hc), _, _, rfl, rfl, true, congrArg V.bl (decide_eq_true (by rw [el]; exact hlo)), iteT ⟨_, _, rfl, rfl, true, congrArg V.bl (decide_eq_true (by rw [el]; omega)), iteF ?_⟩⟩
  -- the colours
  refine ⟨_, rfl, c, _, rfl, SqT.of hc, ?_⟩
  refine for_it (walk_en (K := K) (a := c) (xs := nv cs)) (fun _ σ' H1 => Same H' H1 ∧ ∃ x5 x6, σ' = [some (.ref l), some (.ref c), some (.ref h), some (.bl rg), some (.int lo), x5, x6]) ⟨Same.refl _, none, none, rfl⟩ (fun i σ' H1 _ p => SqT.of (p.1 _ _ hc)) ?_ ?_
  · rintro i x σ' H1 H2 hi ⟨s1, x5, x6, rfl⟩ ⟨tt, a1, a2, rfl, nt, rfl, e1, e2⟩
    rw [nv_length] at hi
    cases e1
    cases (nv_get hi).symm.trans e2
    refine ⟨tt, _, rfl, SqT.of upd_same, rfl, _, _, rfl, _, _, rfl, rfl, ?_⟩
    have h9 := ok.c9 (cs.getD i 0) (by rw [List.getD_eq_getElem?_getD, List.getElem?_eq_getElem hi]; exact List.getElem_mem hi)
    refine ⟨_, rfl, _, _, _, rfl, true, congrArg V.bl ?_, iteF ⟨s1.trans (same_new nt _), _, _, rfl⟩⟩
    rw [Bool.and_eq_true, decide_eq_true_eq, decide_eq_true_eq]
    omega
  · rintro σ' H1 ⟨s1, x5, x6, rfl⟩
    refine ⟨_, rfl, c, _, rfl, .inr (SqT.of (s1 _ _ hc)), _, rfl, cs.length, h, hd, by rw [el] <;> rfl, s1 _ _ hh, ok.hs, by omega, fun H2 s2 => ⟨true, rfl, iteF (q _ (s1.trans s2))⟩⟩
def spReady : Sp := fun vs H Q _ => ∃ (l : Addr) (cs hd : List Nat) (rg : Bool), vs = [.ref l] ∧ LnAt H l cs hd rg ∧ Lok cs hd rg ∧ ∀ H' p, Same H H' → H' p = some (.lst (nv (rdy cs.length hd rg cs))) → Q (.ref p) H'
theorem nv_snoc (ks : List Nat) (k : Nat) : nv ks ++ [.int (k : Int)] = nv (ks ++ [k]) := by
  unfold nv zs
  rw [List.map_append, List.map_append]
  rfl
theorem kn_readyin (T : Tp K mg) : Kn P w K mg base 3 "ready_in" ps_readyin spReady := by
  refine kn_of T.d_readyin sc_readyin (fun vs H Q E h => ?_) (fun f cdv A outer s H vs Q E hr h => ?_)
  · obtain ⟨l, cs, hd, rg, rfl, _⟩ := h
    rfl
  obtain ⟨l, cs, hd, rg, rfl, LA, ok, q⟩ := h
  refine ⟨_, pss_cons (ps_set (i := 1) sc_readyin.nd rfl (.inr rfl) (pe_kn (kn_heldin T) hr (pa_cons (pv 0) pa_nil)))
    (pss_one (ps_ret (pe_lc (own := [("k", 2)]) (g := gName 2) rfl sc_readyin.nd (pi_range1 rfl T.n_range (pa_cons (pe_callB call_len_seq rfl T.n_len PySem.boot_len (pa_cons (pe_ix ix_tup (pv 0) pe_int (fun _ _ => rfl)) pa_nil)) pa_nil)) (blkOk_by (own := [("k", 2)]) (N := ns_readyin) (sc := defScope s_readyin) (by decide +kernel))
      (fun _ _ _ _ _ => pg_name (i := 2) sc_readyin.nd rfl (Or.inl rfl)) (fun _ _ _ _ _ => pts_one (PW.pt (pw_and (pt_cmpR (r := rIn K true) op_notIn_seq (pv 2) (pv 1) rfl) (pw_and1 (pt_val (pe_kn (kn_flanked T) hr (pa_cons (pe_ix (r := rIxT K) ix_tup (pv 0) pe_int (fun _ _ => rfl)) (pa_cons (pv 2) pa_nil)))))))) (fun _ _ _ _ _ => pv 2)))), ?_⟩
  refine ⟨_, rfl, l, cs, hd, rg, rfl, LA, ok, fun H1 p s1 hp => ?_⟩
  obtain ⟨c, h, hl, hc, hh⟩ := LA
  have el : (((nv cs).length : Nat) : Int) = ((cs.length : Nat) : Int) := by rw [nv_length]
  have n11 := ok.n11
  refine ⟨_, rfl, l, _, _, _, rfl, rfl, SqT.of (s1 _ _ hl), atI_nat (j := 0) rfl, c, _, rfl, .inr (SqT.of (s1 _ _ hc)), (((nv cs).length : Nat) : Int), rfl, by rw [el]; omega, by rw [el]; omega, fun D nD => ?_⟩
  have en : ((((nv cs).length : Nat) : Int)).toNat = cs.length := by rw [nv_length] <;> rfl
  rw [en]
  refine lc_range (lo := 0) (n := cs.length) (fun i H' => Same H1 H' ∧ H' D = some (.lst (nv ((List.range i).filter fun k => !hld cs.length hd rg k && flk cs.length cs k)))) ⟨same_new nD _, upd_same⟩ (fun i H' hi p' => ?_) (fun H' p' => ?_)
  · have ei : (0 : Int) + ((i : Nat) : Int) = ((i : Nat) : Int) := by omega
    rw [ei]
    refine ⟨rfl, _, rfl, _, rfl, p, _, rfl, .inl (SqL.of (p'.1 _ _ hp)), rfl, nv_flat _, ?_⟩
    have eh : decide (i ∈ heldL cs.length hd rg) = hld cs.length hd rg i := by
      rw [Bool.eq_iff_iff, decide_eq_true_eq, mem_heldL]
      exact ⟨fun h => h.2, fun h => ⟨hi, h⟩⟩
    have en2 : (if true = true then !inV (V.int (i : Int)) (nv (heldL cs.length hd rg)) else inV (V.int (i : Int)) (nv (heldL cs.length hd rg))) = !hld cs.length hd rg i := by
      rw [if_pos rfl, nv_in, eh]
    refine ⟨!hld cs.length hd rg i, congrArg V.bl en2, ?_⟩
    rw [List.range_succ, List.filter_append]
    cases e1 : hld cs.length hd rg i with
    | true =>
      refine iteF (iteF ?_)
      have : List.filter (fun k => !hld cs.length hd rg k && flk cs.length cs k) [i] = [] := by simp [e1]
      rw [this, List.append_nil]
      exact p'
    | false =>
      refine iteT ⟨_, rfl, l, _, _, _, rfl, rfl, SqT.of (p'.1 _ _ (s1 _ _ hl)), atI_nat (j := 0) rfl, _, rfl, c, cs, i, rfl, p'.1 _ _ (s1 _ _ hc), hi, fun H2 s2 => ⟨_, rfl, ?_⟩⟩
      cases e2 : flk cs.length cs i with
      | true =>
        refine iteT ⟨_, rfl, _, s2 _ _ p'.2, ?_, ?_⟩
        · rw [nv_length]
          have := List.length_filter_le (fun k => !hld cs.length hd rg k && flk cs.length cs k) (List.range i)
          rw [List.length_range] at this
          exact len_le (by omega)
        · have : List.filter (fun k => !hld cs.length hd rg k && flk cs.length cs k) [i] = [i] := by simp [e1, e2]
          rw [this, ← nv_snoc]
          exact ⟨same_mut (p'.1.trans s2) nD _, upd_same⟩
      | false =>
        refine iteF ?_
        have : List.filter (fun k => !hld cs.length hd rg k && flk cs.length cs k) [i] = [] := by simp [e1, e2]
        rw [this, List.append_nil]
        exact ⟨p'.1.trans s2, s2 _ _ p'.2⟩
  · exact q _ D (s1.trans p'.1) p'.2
def spSwings : Sp := fun vs H Q _ => ∃ (l : Addr) (cs hd : List Nat) (rg : Bool), vs = [.ref l] ∧ LnAt H l cs hd rg ∧ Lok cs hd rg ∧ ∀ H', Same H H' → Q (.bl (decide ((rdy cs.length hd rg cs).length = cs.length))) H'
/-- a row has its ends held -/
theorem row_less {cs hd : List Nat} (ok : Lok cs hd false) : (rdy cs.length hd false cs).length ≠ cs.length := by
  intro h
  unfold rdy at h
  have e := List.length_filter_eq_length_iff.mp (h.trans (List.length_range (n := cs.length)).symm) 0 (List.mem_range.mpr ok.n1)
  simp [hld] at e
theorem kn_swingsin (T : Tp K mg) : Kn P w K mg base 4 "swings_in" ps_swingsin spSwings := by
  refine kn_of T.d_swingsin sc_swingsin (fun vs H Q E h => ?_) (fun f cdv A outer s H vs Q E hr h => ?_)
  · obtain ⟨l, cs, hd, rg, rfl, _⟩ := h
    rfl
  obtain ⟨l, cs, hd, rg, rfl, LA, ok, q⟩ := h
  refine ⟨_, pss_one (ps_ret (pe_and (pe_ix ix_tup (pv 0) pe_int (fun _ _ => rfl)) (pe_one (pe_cmpR op_eq (pe_callB call_len_seq rfl T.n_len PySem.boot_len (pa_cons (pe_kn (kn_readyin T) hr (pa_cons (pv 0) pa_nil)) pa_nil))
    (pe_callB call_len_seq rfl T.n_len PySem.boot_len (pa_cons (pe_ix ix_tup (pv 0) pe_int (fun _ _ => rfl)) pa_nil)) (nomark _))))), ?_⟩
  obtain ⟨c, h, hl, hc, hh⟩ := id LA
  refine ⟨_, rfl, l, _, _, _, rfl, rfl, SqT.of hl, atI_nat (j := 2) rfl, rg, rfl, ?_⟩
  cases rg with
  | false =>
    refine iteF ?_
    have := q H (Same.refl H)
    rw [decide_eq_false (row_less ok)] at this
    exact this
  | true =>
    refine iteT ⟨_, rfl, l, cs, hd, true, rfl, LA, ok, fun H1 p s1 hp => ⟨p, _, rfl, .inl (SqL.of hp), ?_⟩⟩
    refine ⟨_, rfl, l, _, _, _, rfl, rfl, SqT.of (s1 _ _ hl), atI_nat (j := 0) rfl, c, _, rfl, .inr (SqT.of (s1 _ _ hc)), rfl, ?_⟩
    have e : decide (V.int (((nv (rdy cs.length hd true cs)).length : Nat) : Int) = V.int (((nv cs).length : Nat) : Int)) = decide ((rdy cs.length hd true cs).length = cs.length) := by
      rw [nv_length, nv_length, decide_eq_decide]
      constructor
      · intro e
        injection e with e
        exact Int.ofNat.inj e
      · intro e
        rw [e]
    rw [e]
    exact q _ s1
end
end FT
set_option Elab.async false
set_option linter.all false
set_option maxRecDepth 100000
set_option maxHeartbeats 4000000
namespace FT
open PySem PySem.Spec PyProof.Rows L2
section
variable {P : Program} {w : World} {K : PySem.W.Frag} {mg : Str → Option Value} {base : Heap}
/-! ### stretches_in -/
def arc (n k j : Nat) : List Nat := (List.range (j + 1)).map fun i => (k + i) % n
def stre (n : Nat) (R : List Nat) (k : Nat) : List Nat := lft n k :: arc n k (runL n R n k)
theorem arc_succ (n k j : Nat) : arc n k (j + 1) = arc n k j ++ [(k + (j + 1)) % n] := by
  unfold arc
  rw [List.range_succ (n := j + 1), List.map_append]
  rfl
theorem arc_zero {n k : Nat} (h : k < n) : arc n k 0 = [k] := by
  show [(k + 0) % n] = [k]
  rw [Nat.add_zero, Nat.mod_eq_of_lt h]
theorem arc_len (n k j : Nat) : (arc n k j).length = j + 1 := by
  unfold arc
  rw [List.length_map, List.length_range]
theorem arc_last (n k j : Nat) : (arc n k j)[j]? = some ((k + j) % n) := by
  unfold arc
  rw [List.getElem?_map, List.getElem?_range (Nat.lt_succ_self j)]
  rfl
theorem rgt_step (n k j : Nat) : rgt n ((k + j) % n) = (k + (j + 1)) % n := by
  unfold rgt
  rw [Nat.mod_add_mod]
  rfl
theorem runL_says {n : Nat} {R : List Nat} : ∀ (f k : Nat), k < n → runL n R f k ≤ f ∧ (∀ i, i < runL n R f k → (k + i) % n ∈ R) ∧ (runL n R f k < f → (k + runL n R f k) % n ∉ R)
  | 0, k, _ => ⟨Nat.le_refl _, fun i h => absurd h (Nat.not_lt_zero _), fun h => absurd h (Nat.not_lt_zero _)⟩
  | f + 1, k, hk => by
    unfold runL
    have hk0 : (k + 0) % n = k := by rw [Nat.add_zero, Nat.mod_eq_of_lt hk]
    by_cases hm : memB R k = true
    · rw [if_pos hm]
      obtain ⟨a, b, c⟩ := runL_says (n := n) (R := R) f (rgt n k) (rgt_lt hk)
      have step : ∀ i, (rgt n k + i) % n = (k + (i + 1)) % n := fun i => by
        unfold rgt
        rw [Nat.mod_add_mod]
        congr 1
        omega
      refine ⟨by omega, fun i hi => ?_, fun h => ?_⟩
      · cases i with
        | zero => rw [hk0]; exact (memB_iff k R).mp hm
        | succ i => rw [← step]; exact b i (by omega)
      · rw [← step]
        exact c (by omega)
    · rw [if_neg hm]
      refine ⟨Nat.zero_le _, fun i h => absurd h (Nat.not_lt_zero _), fun _ => ?_⟩
      rw [hk0]
      exact fun h => hm ((memB_iff k R).mpr h)
/-- a run that begins behind a cell that is not ready ends -/
theorem run_ends {n : Nat} {R : List Nat} {k : Nat} (hk : k < n) (hl : lft n k ∉ R) : (∀ i, i < runL n R n k → (k + i) % n ∈ R) ∧ (k + runL n R n k) % n ∉ R ∧ runL n R n k < n := by
  obtain ⟨a, b, c⟩ := runL_says (n := n) (R := R) n k hk
  have lt : runL n R n k < n := by
    rcases Nat.lt_or_ge (runL n R n k) n with h | h
    · exact h
    · exfalso
      apply hl
      have := b (n - 1) (by omega)
      have e : k + (n - 1) = k + n - 1 := by omega
      rw [e] at this
      exact this
  exact ⟨b, c lt, lt⟩
abbrev TN := Addr × List Nat
def refN (ts : List TN) : List V := ts.map fun t => V.ref t.1
def spStretches : Sp := fun vs H Q _ => ∃ (l : Addr) (cs hd : List Nat) (rg : Bool), vs = [.ref l] ∧ LnAt H l cs hd rg ∧ Lok cs hd rg ∧
  ∀ H' p (ts : List TN), Same H H' → H' p = some (.lst (refN ts)) → (∀ t ∈ ts, H' t.1 = some (.tup (nv t.2))) → (ts.map (·.2)).Perm ((starts cs.length (rdy cs.length hd rg cs)).map (stre cs.length (rdy cs.length hd rg cs))) → Q (.ref p) H'
theorem refs_zs (ts : List TN) : refsV (ts.map fun t => (t.1, zs t.2)) = refN ts := by
  unfold refsV refN
  rw [List.map_map]
  rfl
theorem take_next {R : List Nat} {i : Nat} (h : i < R.length) : R.take (i + 1) = R.take i ++ [R.getD i 0] := by
  rw [List.take_add_one, List.getD_eq_getElem?_getD, List.getElem?_eq_getElem h]
  rfl
theorem u2 {k : Nat} {A : Around} (hr : Room k A) : A.units + 2 < cLine := by have := hr.units; omega
theorem kn_stretchesin (T : Tp K mg) : Kn P w K mg base 4 "stretches_in" ps_stretchesin spStretches := by
  refine kn_of T.d_stretchesin sc_stretchesin (fun vs H Q E h => ?_) (fun f cdv A outer s H vs Q E hr h => ?_)
  · obtain ⟨l, cs, hd, rg, rfl, _⟩ := h
    rfl
  obtain ⟨l, cs, hd, rg, rfl, LA, ok, q⟩ := h
  refine ⟨_, pss_cons (ps_par (by rfl) sc_stretchesin.nd (i := 1) (j := 2) rfl rfl (by decide) rfl rfl (pa_cons (pe_kn (kn_readyin T) hr (pa_cons (pv 0) pa_nil)) (pa_cons (pe_callB call_len_seq rfl T.n_len PySem.boot_len (pa_cons (pe_ix ix_tup (pv 0) pe_int (fun _ _ => rfl)) pa_nil)) pa_nil)) (by rfl))
    (pss_cons (ps_set (i := 3) sc_stretchesin.nd rfl (.inl rfl) (pe_lst pa_nil))
    (pss_cons (ps_for PassesOwn.never rfl (pi_list (pv 1)) (pg_name (i := 4) sc_stretchesin.nd rfl (.inl rfl))
      (pss_one (ps_if (pt_cmpR op_notIn_seq (pe_op op_mod (pe_op op_sub (pv 4) pe_int) (pv 2)) (pv 1) rfl)
        (pss_cons (ps_set (i := 5) sc_stretchesin.nd rfl (.inl rfl) (pe_lst (pa_cons (pe_op op_mod (pe_op op_sub (pv 4) pe_int) (pv 2)) (pa_cons (pv 4) pa_nil))))
        (pss_cons (ps_while PassesOwn.never (pt_cmpR op_in_seq (pe_ix ix_list (pv 5) (pe_un un_neg pe_int) (fun _ _ => rfl)) (pv 1) rfl)
          (pss_one (ps_expr (pe_bm PySem.F.plainAttrs_list PySem.F.slot_list_append PySem.F.type_list_append mt_append (pv 5) (pa_cons (pe_op op_mod (pe_op op_add (pe_ix ix_list (pv 5) (pe_un un_neg pe_int) (fun _ _ => rfl)) pe_int) (pv 2)) pa_nil)))))
        (pss_one (ps_expr (pe_bm PySem.F.plainAttrs_list PySem.F.slot_list_append PySem.F.type_list_append mt_append (pv 3) (pa_cons (pe_callTy call_tuple_of rfl T.n_tuple (by decide +kernel) (pa_cons (pv 5) pa_nil)) pa_nil)))))) pss_nil)))
    (pss_one (ps_ret (pe_callB (cr_sortTs (u2 hr)) rfl T.n_sorted (by decide +kernel) (pa_cons (pv 3) pa_nil)))))), ?_⟩
  obtain ⟨c, h, hl, hc, hh⟩ := id LA
  have n11 := ok.n11
  refine ⟨_, rfl, l, cs, hd, rg, rfl, LA, ok, fun H1 p s1 hp => ?_⟩
  refine ⟨_, rfl, l, _, _, _, rfl, rfl, SqT.of (s1 _ _ hl), atI_nat (j := 0) rfl, c, _, rfl, .inr (SqT.of (s1 _ _ hc)), ?_⟩
  rw [nv_length]
  generalize hn : cs.length = n at *
  generalize hR : rdy n hd rg cs = R at *
  have hsub : Sub n R := by rw [← hR]; exact rdy_sub _ _ _ _
  have hRl := sub_len hsub
  refine ⟨_, _, rfl, Nat.zero_le _, fun fo nf => ?_⟩
  refine ⟨_, rfl, p, rfl, ⟨_, SqL.of (same_new nf _ _ _ hp)⟩, ?_⟩
  refine for_list (K := K) (a := p) (xs := nv R) (fun i σ' H' => Same H1 H' ∧ ∃ x4 x5 ts, σ' = [some (.ref l), some (.ref p), some (.int (n : Int)), some (.ref fo), x4, x5] ∧ H' fo = some (.lst (refN ts)) ∧ (∀ t ∈ ts, H' t.1 = some (.tup (nv t.2))) ∧ ts.map (·.2) = ((R.take i).filter fun k => !memB R (lft n k)).map (stre n R))
    ⟨same_new nf _, none, none, [], rfl, upd_same, fun t ht => absurd ht (by simp), rfl⟩ (fun i σ' H' _ pp => SqL.of (pp.1 _ _ hp)) ?_ ?_
  · rintro i x σ' H' hx ⟨s2, x4, x5, ts, rfl, hf, hts, ets⟩
    have hi : i < R.length := by
      have := (List.getElem?_eq_some_iff.mp hx).1
      rw [nv_length] at this
      exact this
    cases (nv_get hi).symm.trans hx
    generalize hk : R.getD i 0 = k
    have kR : k ∈ R := by
      rw [← hk, List.getD_eq_getElem?_getD, List.getElem?_eq_getElem hi]
      exact List.getElem_mem hi
    have kn : k < n := hsub.lt kR
    have npos : (0 : Int) < ((n : Nat) : Int) := by omega
    have hp2 := s2 _ _ hp
    refine ⟨_, rfl, _, _, rfl, rfl, _, rfl, _, _, rfl, rfl, npos, _, rfl, p, _, rfl, .inl (SqL.of hp2), rfl, nv_flat _, ?_⟩
    rw [take_next hi, hk, List.filter_append]
    have em : (if true = true then !inV (V.int ((((k : Nat) : Int) - 1) % ((n : Nat) : Int))) (nv R) else inV (V.int ((((k : Nat) : Int) - 1) % ((n : Nat) : Int))) (nv R)) = !memB R (lft n k) := by
      rw [lft_int kn, if_pos rfl, nv_in]
      congr 1
      rw [Bool.eq_iff_iff, decide_eq_true_eq, memB_iff]
    refine ⟨!memB R (lft n k), congrArg V.bl em, ?_⟩
    cases eb : memB R (lft n k) with
    | true =>
      have : List.filter (fun k => !memB R (lft n k)) [k] = [] := by simp [eb]
      rw [this, List.append_nil]
      exact iteF ⟨s2, _, _, ts, rfl, hf, hts, ets⟩
    | false =>
      have e1 : List.filter (fun k => !memB R (lft n k)) [k] = [k] := by simp [eb]
      rw [e1]
      have nl : lft n k ∉ R := fun h => by
        rw [(memB_iff _ _).mpr h] at eb
        cases eb
      obtain ⟨r1, r2, r3⟩ := run_ends kn nl
      refine iteT ⟨_, rfl, _, _, rfl, rfl, _, rfl, _, _, rfl, rfl, npos, _, rfl, (by show 2 ≤ sizeLine; decide), fun z nz => ?_⟩
      have nfz : fo ≠ z := ne_of_none hf nz
      have e2 : ([.int ((((k : Nat) : Int) - 1) % ((n : Nat) : Int)), .int ((k : Nat) : Int)] : List V) = nv (lft n k :: arc n k 0) := by
        rw [lft_int kn, arc_zero kn]
        rfl
      -- the while
      refine ⟨fun m σ' H2 => ∃ j, j + m = runL n R n k ∧ Same H' H2 ∧ σ' = [some (.ref l), some (.ref p), some (.int (n : Int)), some (.ref fo), some (.int (k : Int)), some (.ref z)] ∧ H2 z = some (.lst (nv (lft n k :: arc n k j))),
        ⟨_, 0, Nat.zero_add _, same_new nz _, rfl, upd_same.trans (congrArg (fun xs => some (HO.lst xs)) e2)⟩, ?_⟩
      rintro m σ' H2 ⟨j, ej, s3, rfl, hz⟩
      have lastat : atI (nv (lft n k :: arc n k j)) (-1) = some (.int (((k + j) % n : Nat) : Int)) := by
        have len : (nv (lft n k :: arc n k j)).length = j + 2 := by rw [nv_length, List.length_cons, arc_len]
        unfold atI ixN
        rw [len, if_neg (by omega), if_pos (by omega)]
        have e3 : ((-1 : Int) + ((j + 2 : Nat) : Int)).toNat = j + 1 := by omega
        rw [e3]
        show (nv (lft n k :: arc n k j))[j + 1]? = _
        unfold nv zs
        rw [List.getElem?_map, List.getElem?_map, List.getElem?_cons_succ, arc_last]
        rfl
      refine ⟨_, rfl, _, rfl, z, _, _, _, rfl, rfl, SqL.of hz, lastat, _, rfl, p, _, rfl, .inl (SqL.of (s3 _ _ hp2)), rfl, nv_flat _, ?_⟩
      have ew : (if false = true then !inV (V.int (((k + j) % n : Nat) : Int)) (nv R) else inV (V.int (((k + j) % n : Nat) : Int)) (nv R)) = decide ((k + j) % n ∈ R) := by
        rw [if_neg Bool.false_ne_true, nv_in]
      refine ⟨decide ((k + j) % n ∈ R), congrArg V.bl ew, ?_⟩
      by_cases hj : j < runL n R n k
      · rw [decide_eq_true (r1 j hj)]
        refine iteT ⟨_, fun σ' H' w => ⟨m - 1, by omega, w⟩, ?_⟩
        refine ⟨_, rfl, .inl ⟨rfl, _, .inl (.inl hz)⟩, _, rfl, _, rfl, z, _, _, _, rfl, rfl, SqL.of hz, lastat, _, _, rfl, rfl, _, rfl, _, _, rfl, rfl, npos, z, _, _, rfl, rfl, hz, ?_, ?_⟩
        · rw [nv_length, List.length_cons, arc_len]
          exact len_le (by omega)
        · have e4 : ((((k + j) % n : Nat) : Int) + 1) % ((n : Nat) : Int) = (((k + (j + 1)) % n : Nat) : Int) := by
            rw [rgt_int (Nat.mod_lt _ (by omega)), rgt_step]
          have e8 : nv (lft n k :: arc n k j) ++ [V.int (((((k + j) % n : Nat) : Int) + 1) % ((n : Nat) : Int))] = nv (lft n k :: arc n k (j + 1)) := by
            rw [e4, nv_snoc, List.cons_append, ← arc_succ]
          exact ⟨j + 1, by omega, same_mut s3 nz _, rfl, upd_same.trans (congrArg (fun xs => some (HO.lst xs)) e8)⟩
      · have ejr : j = runL n R n k := by omega
        rw [ejr] at hz ⊢
        rw [decide_eq_false r2]
        refine iteF ?_
        have hf2 := s3 _ _ hf
        refine ⟨_, rfl, .inl ⟨rfl, _, .inl (.inl hf2)⟩, _, rfl, z, _, rfl, .inl ⟨SqL.of hz, fun u nu => ?_⟩⟩
        have nfu : fo ≠ u := ne_of_none hf2 nu
        have s4 : Same H2 (upd H2 u (.tup (nv (lft n k :: arc n k (runL n R n k))))) := same_new nu _
        refine ⟨fo, _, _, rfl, rfl, s4 _ _ hf2, ?_, ?_⟩
        · unfold refN
          have e5 := congrArg List.length ets
          rw [List.length_map, List.length_map] at e5
          have e6 := List.length_filter_le (fun k => !memB R (lft n k)) (R.take i)
          have e7 : (R.take i).length ≤ i := List.length_take_le _ _
          rw [List.length_map, e5]
          exact len_le (by omega)
        · have nfo1 : H1 fo = none := nf
          have keep : ∀ t ∈ ts, t.1 ≠ fo := fun t ht e => by
            have := hts t ht
            rw [e, hf] at this
            cases this
          refine ⟨same_mut ((s2.trans s3).trans s4) nfo1 _, _, _, ts ++ [(u, stre n R k)], rfl, ?_, fun t ht => ?_, ?_⟩
          · rw [upd_same]
            unfold refN
            rw [List.map_append]
            rfl
          · rcases List.mem_append.mp ht with ht | ht
            · rw [upd_ne (keep t ht)]
              exact s4 _ _ (s3 _ _ (hts t ht))
            · rw [List.mem_singleton.mp ht]
              show upd _ fo _ u = _
              rw [upd_ne (Ne.symm nfu), upd_same]
              rfl
          · rw [List.map_append, List.map_append, ets]
            rfl
  · rintro σ' H' ⟨s2, x4, x5, ts, rfl, hf, hts, ets⟩
    refine ⟨_, rfl, fo, ts.map (fun t => (t.1, zs t.2)), rfl, ?_, fun t ht => ?_, fun ts' p2 pm np => ?_⟩
    · rw [refs_zs]
      exact SqL.of hf
    · obtain ⟨t0, h0, rfl⟩ := List.mem_map.mp ht
      exact SqT.of (hts t0 h0)
    · obtain ⟨ts2, e2, pm2⟩ := perm_of_map pm ts rfl
      rw [e2, refs_zs]
      refine q _ p2 ts2 ((s1.trans s2).trans (same_new np _)) upd_same (fun t ht => same_new np _ _ _ (hts t (pm2.mem_iff.mp ht))) ?_
      refine (pm2.map (·.2)).trans ?_
      rw [ets, nv_length, List.take_length]
      exact List.Perm.refl _
end
end FT
set_option Elab.async false
set_option linter.all false
set_option maxRecDepth 100000
set_option maxHeartbeats 4000000
namespace FT
open PySem PySem.Spec PyProof.Rows L2
section
variable {P : Program} {w : World} {K : PySem.W.Frag} {mg : Str → Option Value} {base : Heap}
theorem yes_of {σ : L2.St} {H : Hp} {A B : Hp → Prop} (h : A H) : tYes σ H fun b H3 => if b = true then A H3 else B H3 := by
  show (if true = true then A H else B H)
  rw [if_pos rfl]
  exact h
/-! ### insides, added -/
theorem cut_mid {xs : List V} (h : 2 ≤ xs.length) : (cutV xs (some 1) (some (-1))).length = xs.length - 2 := by
  unfold cutV
  have e1 : HT.sIx xs.length 0 (some 1) = 1 := by
    rw [show (some (1 : Int)) = some (((1 : Nat) : Int)) from rfl, HT.sIx_nat]
    omega
  have e2 : HT.sIx xs.length xs.length (some (-1)) = xs.length - 1 := by
    show (if (-1 : Int) < 0 then ((-1 : Int) + ((xs.length : Nat) : Int)).toNat else min (-1 : Int).toNat xs.length) = _
    rw [if_pos (by omega)]
    omega
  rw [e1, e2, List.length_take, List.length_drop]
  omega
theorem not_whole {n : Nat} (h : 2 ≤ n) : ¬ (HT.sIx n 0 (some 1) = 0 ∧ HT.sIx n n (some (-1)) = n) := by
  rintro ⟨e, _⟩
  rw [show (some (1 : Int)) = some (((1 : Nat) : Int)) from rfl, HT.sIx_nat] at e
  omega
theorem stre_len {n : Nat} {R : List Nat} {k : Nat} : (stre n R k).length = runL n R n k + 2 := by
  unfold stre
  rw [List.length_cons, arc_len]
abbrev TL := Addr × List V
def refL (is : List TL) : List V := is.map fun t => V.ref t.1
def spInsides : Sp := fun vs H Q _ => ∃ (l : Addr) (cs hd : List Nat) (rg : Bool), vs = [.ref l] ∧ LnAt H l cs hd rg ∧ Lok cs hd rg ∧
  ∀ H' p (is : List TL), Same H H' → H' p = some (.lst (refL is)) → (∀ t ∈ is, H' t.1 = some (.lst t.2)) → (is.map fun t => t.2.length).Perm (lens cs.length (rdy cs.length hd rg cs)) → Q (.ref p) H'
theorem kn_insides (T : Tp K mg) : Kn P w K mg base 5 "insides" ps_insides spInsides := by
  refine kn_of T.d_insides sc_insides (fun vs H Q E h => ?_) (fun f cdv A outer s H vs Q E hr h => ?_)
  · obtain ⟨l, cs, hd, rg, rfl, _⟩ := h
    rfl
  obtain ⟨l, cs, hd, rg, rfl, LA, ok, q⟩ := h
  refine ⟨_, pss_one (ps_ret (pe_lc (own := [("one", 1)]) (g := gName 1) rfl sc_insides.nd (pi_list (pe_kn (kn_stretchesin T) hr (pa_cons (pv 0) pa_nil))) (blkOk_by (own := [("one", 1)]) (N := ns_insides) (sc := defScope s_insides) (by decide +kernel))
      (fun _ _ _ _ _ => pg_name (i := 1) sc_insides.nd rfl (Or.inl rfl)) (fun _ _ _ _ _ => pts_nil)
      (fun _ _ _ _ _ => pe_callTy (r := fun xs H Q => ∃ p ys, xs = [.ref p] ∧ (SqL K H p ys ∨ SqT K H p ys) ∧ ∀ l, H l = none → Q (.ref l) (upd H l (.lst ys))) call_list_of rfl T.n_list (by decide +kernel) (pa_cons (pe_slice (r := rSlA K) sl_tupA (pv 1) (po_some pe_int) (po_some (pe_un un_neg pe_int))) pa_nil)))), ?_⟩
  refine ⟨_, rfl, l, cs, hd, rg, rfl, LA, ok, fun H1 p ts s1 hp hts pm => ?_⟩
  refine ⟨p, rfl, ⟨_, SqL.of hp⟩, fun D nD => ?_⟩
  generalize hR : rdy cs.length hd rg cs = R at *
  have big : ∀ t ∈ ts, 2 ≤ t.2.length := fun t ht => by
    have m := pm.mem_iff.mp (List.mem_map.mpr ⟨t, ht, rfl⟩)
    obtain ⟨k, _, e⟩ := List.mem_map.mp m
    rw [← e, stre_len]
    omega
  have few : ts.length ≤ 11 := by
    have e := pm.length_eq
    rw [List.length_map, List.length_map] at e
    have e1 : (starts cs.length R).length ≤ R.length := List.length_filter_le _ _
    have e2 : R.length ≤ cs.length := sub_len (by rw [← hR]; exact rdy_sub _ _ _ _)
    have := ok.n11
    omega
  refine lc_list (K := K) (a := p) (xs := refN ts) (fun i H' => Same H1 H' ∧ ∃ is : List TL, H' D = some (.lst (refL is)) ∧ (∀ t ∈ is, t.1 ≠ D ∧ H' t.1 = some (.lst t.2)) ∧ (is.map fun t => t.2.length) = (ts.take i).map fun t => t.2.length - 2)
    ⟨same_new nD _, [], upd_same, fun t ht => absurd ht (by simp), rfl⟩ (fun i H' _ pp => SqL.of (pp.1 _ _ hp)) (fun i x H' hx pp => ?_) (fun H' pp => ?_)
  · obtain ⟨s2, is, hD, his, eis⟩ := pp
    have hi : i < ts.length := by
      have := (List.getElem?_eq_some_iff.mp hx).1
      unfold refN at this
      rw [List.length_map] at this
      exact this
    have ex : x = V.ref ts[i].1 := by
      unfold refN at hx
      rw [List.getElem?_map, List.getElem?_eq_getElem hi] at hx
      exact (Option.some.inj hx).symm
    subst ex
    have ht := hts _ (List.getElem_mem hi)
    have b2 : 2 ≤ (nv ts[i].2).length := by
      rw [nv_length]
      exact big _ (List.getElem_mem hi)
    refine ⟨rfl, ?_⟩
    refine yes_of ?_
    refine ⟨_, rfl, 1, rfl, 1, rfl, -1, rfl, ts[i].1, nv ts[i].2, rfl, SqT.of (s2 _ _ ht), fun z => absurd z (not_whole b2), fun _ u nu => ?_⟩
    refine ⟨u, _, rfl, .inr (SqT.of upd_same), fun z nz => ?_⟩
    have s3 : Same H' (upd H' u (.tup (cutV (nv ts[i].2) (some 1) (some (-1))))) := same_new nu _
    have s4 := s3.trans (same_new nz (.lst (cutV (nv ts[i].2) (some 1) (some (-1)))))
    have zD : z ≠ D := fun e => by
      have := s3 _ _ hD
      rw [← e, nz] at this
      cases this
    refine ⟨_, s4 _ _ hD, ?_, ?_⟩
    · unfold refL
      have e := congrArg List.length eis
      rw [List.length_map, List.length_map] at e
      rw [List.length_map, e]
      have : (ts.take i).length ≤ i := List.length_take_le _ _
      exact len_le (by omega)
    · refine ⟨same_mut (s2.trans s4) nD _, is ++ [(z, cutV (nv ts[i].2) (some 1) (some (-1)))], ?_, fun t ht' => ?_, ?_⟩
      · rw [upd_same]
        unfold refL
        rw [List.map_append]
        rfl
      · rcases List.mem_append.mp ht' with h' | h'
        · obtain ⟨n1, n2⟩ := his t h'
          exact ⟨n1, by rw [upd_ne n1]; exact s4 _ _ n2⟩
        · rw [List.mem_singleton.mp h']
          exact ⟨zD, by rw [upd_ne zD, upd_same]⟩
      · rw [List.map_append, eis, List.take_add_one, List.getElem?_eq_getElem hi, List.map_append]
        show _ ++ [(cutV (nv ts[i].2) (some 1) (some (-1))).length] = _ ++ [ts[i].2.length - 2]
        rw [cut_mid b2, nv_length]
  · obtain ⟨s2, is, hD, his, eis⟩ := pp
    refine q _ D is (s1.trans s2) hD (fun t ht => (his t ht).2) ?_
    have e1 : (refN ts).length = ts.length := by unfold refN; rw [List.length_map]
    rw [eis, e1, List.take_length]
    have e2 : (ts.map fun t => t.2.length - 2) = (ts.map (·.2)).map fun x => x.length - 2 := by rw [List.map_map] <;> rfl
    rw [e2]
    refine (pm.map _).trans ?_
    unfold lens
    rw [List.map_map]
    refine List.Perm.of_eq (List.map_congr_left fun k _ => ?_)
    show (stre cs.length R k).length - 2 = _
    rw [stre_len]
    omega
theorem addP_len : ∀ x y : List Nat, (addP x y).length = max x.length y.length
  | [], b => by simp [addP]
  | x :: a, [] => by simp [addP]
  | x :: a, y :: b => by
    rw [addP, List.length_cons, addP_len a b, List.length_cons, List.length_cons]
    omega
theorem addP_get : ∀ (x y : List Nat) (i : Nat), (addP x y).getD i 0 = x.getD i 0 + y.getD i 0
  | [], b, i => by simp [addP]
  | x :: a, [], i => by simp [addP]
  | x :: a, y :: b, 0 => by simp [addP]
  | x :: a, y :: b, i + 1 => by
    have := addP_get a b i
    simpa [addP] using this
theorem pad_get {x : List Nat} {n i : Nat} (hi : i < n) (hx : x.length ≤ n) : (nv x ++ (List.replicate (n - x.length) [V.int 0]).flatten)[i]? = some (.int ((x.getD i 0 : Nat) : Int)) := by
  have e : (List.replicate (n - x.length) [V.int 0]).flatten = nv (List.replicate (n - x.length) 0) := by
    unfold nv zs
    rw [List.map_replicate, List.map_replicate]
    generalize n - x.length = m
    induction m with
    | zero => rfl
    | succ m ih => rw [List.replicate_succ, List.flatten_cons, ih, List.replicate_succ] <;> rfl
  rw [e]
  have e2 : nv x ++ nv (List.replicate (n - x.length) 0) = nv (x ++ List.replicate (n - x.length) 0) := by
    unfold nv zs
    rw [List.map_append, List.map_append]
  rw [e2, nv_get (by rw [List.length_append, List.length_replicate]; omega)]
  congr 2
  rw [List.getD_eq_getElem?_getD, List.getD_eq_getElem?_getD]
  by_cases h : i < x.length
  · rw [List.getElem?_append_left h]
  · rw [List.getElem?_append_right (by omega), List.getElem?_replicate, List.getElem?_eq_none (by omega)]
    split <;> rfl
theorem pad_len {x : List Nat} {n : Nat} (hx : x.length ≤ n) : (nv x ++ (List.replicate (n - x.length) [V.int 0]).flatten).length = n := by
  rw [List.length_append, nv_length, List.length_flatten]
  simp
  omega
def spAdded : Sp := fun vs H Q _ => ∃ (a b : Addr) (x y : List Nat), vs = [.ref a, .ref b] ∧ H a = some (.lst (nv x)) ∧ H b = some (.lst (nv y)) ∧ x.length ≤ 100 ∧ y.length ≤ 100 ∧ ∀ H' p, Same H H' → H' p = some (.lst (nv (addP x y))) → Q (.ref p) H'
theorem kn_added (T : Tp K mg) : Kn P w K mg base 1 "added" ps_added spAdded := by
  refine kn_of T.d_added sc_added (fun vs H Q E h => ?_) (fun f cdv A outer s H vs Q E hr h => ?_)
  · obtain ⟨a, b, x, y, rfl, _⟩ := h
    rfl
  obtain ⟨a, b, x, y, rfl, ha, hb, hx, hy, q⟩ := h
  refine ⟨_, pss_cons (ps_set (i := 2) sc_added.nd rfl (.inl rfl) (pe_callB (call_max2 rfl) rfl T.n_max (by decide +kernel) (pa_cons (pe_callB call_len_seq rfl T.n_len PySem.boot_len (pa_cons (pv 0) pa_nil)) (pa_cons (pe_callB call_len_seq rfl T.n_len PySem.boot_len (pa_cons (pv 1) pa_nil)) pa_nil))))
    (pss_cons (ps_par (by rfl) sc_added.nd (i := 3) (j := 4) rfl rfl (by decide) rfl rfl (pa_cons (pe_op op_cat (pv 0) (pe_op op_rep (pe_lst (pa_cons pe_int pa_nil)) (pe_op op_sub (pv 2) (pe_callB call_len_seq rfl T.n_len PySem.boot_len (pa_cons (pv 0) pa_nil)))))
      (pa_cons (pe_op op_cat (pv 1) (pe_op op_rep (pe_lst (pa_cons pe_int pa_nil)) (pe_op op_sub (pv 2) (pe_callB call_len_seq rfl T.n_len PySem.boot_len (pa_cons (pv 1) pa_nil))))) pa_nil)) (by rfl))
    (pss_one (ps_ret (pe_lc (own := [("a", 5), ("b", 6)]) (g := gTup K 2 (gCons (gName 5) (gCons (gName 6) gNil))) rfl sc_added.nd (pi_zip rfl T.n_zip (pa_cons (pv 3) (pa_cons (pv 4) pa_nil))) (blkOk_by (own := [("a", 5), ("b", 6)]) (N := ns_added) (sc := defScope s_added) (by decide +kernel))
      (fun _ _ _ _ _ => pg_tup (by rfl) (pgs_cons (pg_name (i := 5) sc_added.nd rfl (Or.inl rfl)) (pgs_cons (pg_name (i := 6) sc_added.nd rfl (Or.inl rfl)) pgs_nil))) (fun _ _ _ _ _ => pts_nil) (fun _ _ _ _ _ => pe_op op_add (pv 5) (pv 6)))))), ?_⟩
  refine ⟨_, rfl, a, _, rfl, .inl (SqL.of ha), _, rfl, b, _, rfl, .inl (SqL.of hb), _, _, rfl, ?_⟩
  rw [nv_length, nv_length]
  generalize hm : (max x.length y.length) = m
  have em : (if ((y.length : Nat) : Int) > ((x.length : Nat) : Int) then ((y.length : Nat) : Int) else ((x.length : Nat) : Int)) = ((m : Nat) : Int) := by
    split <;> omega
  rw [em]
  have hxm : x.length ≤ m := by omega
  have hym : y.length ≤ m := by omega
  have sub1 : ((m : Nat) : Int) - (((nv x).length : Nat) : Int) = ((m - x.length : Nat) : Int) := by rw [nv_length]; omega
  have sub2 : ((m : Nat) : Int) - (((nv y).length : Nat) : Int) = ((m - y.length : Nat) : Int) := by rw [nv_length]; omega
  have tn : ∀ j : Nat, (((j : Nat) : Int)).toNat = j := fun j => rfl
  refine ⟨_, rfl, (by show 1 ≤ sizeLine; decide), fun z nz => ?_⟩
  have s1 : Same H (upd H z (.lst [.int 0])) := same_new nz _
  refine ⟨_, rfl, _, rfl, a, _, rfl, .inl (SqL.of (s1 _ _ ha)), _, _, rfl, rfl, z, ((m - x.length : Nat) : Int), _, rfl, congrArg V.int sub1, upd_same, by omega, by omega, ?_, fun u nu => ?_⟩
  · rw [tn]
    show 1 * _ ≤ sizeLine
    exact sz_le (by omega)
  have s2 := s1.trans (same_new nu (.lst (List.replicate (((m - x.length : Nat) : Int)).toNat [V.int 0]).flatten))
  refine ⟨a, u, _, _, rfl, rfl, s2 _ _ ha, upd_same, ?_, fun p1 np1 => ?_⟩
  · rw [← List.length_append, tn, pad_len hxm]
    exact sz_le (by omega)
  have s3 := s2.trans (same_new np1 (.lst (nv x ++ (List.replicate (((m - x.length : Nat) : Int)).toNat [V.int 0]).flatten)))
  refine ⟨_, rfl, (by show 1 ≤ sizeLine; decide), fun z2 nz2 => ?_⟩
  have s4 := s3.trans (same_new nz2 (.lst [.int 0]))
  refine ⟨_, rfl, _, rfl, b, _, rfl, .inl (SqL.of (s4 _ _ hb)), _, _, rfl, rfl, z2, ((m - y.length : Nat) : Int), _, rfl, congrArg V.int sub2, upd_same, by omega, by omega, ?_, fun u2 nu2 => ?_⟩
  · rw [tn]
    show 1 * _ ≤ sizeLine
    exact sz_le (by omega)
  have s5 := s4.trans (same_new nu2 (.lst (List.replicate (((m - y.length : Nat) : Int)).toNat [V.int 0]).flatten))
  refine ⟨b, u2, _, _, rfl, rfl, s5 _ _ hb, upd_same, ?_, fun p2 np2 => ?_⟩
  · rw [← List.length_append, tn, pad_len hym]
    exact sz_le (by omega)
  have s6 := s5.trans (same_new np2 (.lst (nv y ++ (List.replicate (((m - y.length : Nat) : Int)).toNat [V.int 0]).flatten)))
  have s456 := ((same_new nz2 (.lst [.int 0])).trans (same_new nu2 (.lst (List.replicate (((m - y.length : Nat) : Int)).toNat [V.int 0]).flatten))).trans (same_new np2 (.lst (nv y ++ (List.replicate (((m - y.length : Nat) : Int)).toNat [V.int 0]).flatten)))
  have hp1 := s456 p1 _ upd_same
  refine ⟨_, _, rfl, ?_⟩
  refine ⟨_, rfl, _, rfl, p1, p2, _, _, rfl, SqL.of hp1, SqL.of upd_same, fun D nD => ?_⟩
  refine lc_it (walk_zip (K := K) (a := p1) (b := p2) (n := m) (by rw [tn, tn, pad_len hxm, pad_len hym]; omega)) (fun i H' => Same _ H' ∧ H' D = some (.lst (nv ((addP x y).take i)))) ⟨same_new nD _, upd_same⟩ (fun i H' _ pp => ⟨SqL.of (pp.1 _ _ hp1), SqL.of (pp.1 _ _ upd_same)⟩) (fun i v H' H2 hi pp yy => ?_) (fun H' pp => ?_)
  · obtain ⟨s7, hD⟩ := pp
    obtain ⟨tt, v1, v2, rfl, nt, rfl, g1, g2⟩ := yy
    cases (pad_get hi hxm).symm.trans g1
    cases (pad_get hi hym).symm.trans g2
    have s8 := same_new nt (.tup [.int ((x.getD i 0 : Nat) : Int), .int ((y.getD i 0 : Nat) : Int)])
    refine ⟨tt, _, rfl, SqT.of upd_same, rfl, _, _, rfl, _, _, rfl, rfl, rfl, ?_⟩
    refine yes_of ?_
    refine ⟨_, rfl, _, rfl, _, _, rfl, rfl, _, s8 _ _ hD, ?_, ?_⟩
    · rw [nv_length, List.length_take]
      exact len_le (by rw [addP_len]; omega)
    · refine ⟨same_mut (s7.trans s8) nD _, ?_⟩
      have il : i < (addP x y).length := by rw [addP_len]; omega
      have e : ((x.getD i 0 : Nat) : Int) + ((y.getD i 0 : Nat) : Int) = (((addP x y).getD i 0 : Nat) : Int) := by rw [addP_get]; omega
      refine upd_same.trans (congrArg (fun xs => some (HO.lst xs)) ?_)
      rw [take_next il, ← nv_snoc, ← e]
  · have e : (addP x y).take m = addP x y := List.take_of_length_le (by rw [addP_len]; omega)
    rw [e] at pp
    exact q _ D (s6.trans pp.1) pp.2
end
end FT
set_option Elab.async false
set_option linter.all false
set_option maxRecDepth 100000
set_option maxHeartbeats 4000000
namespace FT
open PySem PySem.Spec PyProof.Rows L2
section
variable {P : Program} {w : World} {K : PySem.W.Frag} {mg : Str → Option Value} {base : Heap}
/-! ### multiplied, path_ends, ring_ends -/
theorem mulRow_len (k a : Nat) : ∀ (b : List Nat) (j : Nat) (f : List Nat), (mulRow k a b j f).length = f.length
  | [], _, _ => rfl
  | y :: r, j, f => by
    rw [mulRow, mulRow_len k a r (j + 1), List.length_set]
theorem nv_set (f : List Nat) (i v : Nat) : (nv f).set i (.int (v : Int)) = nv (f.set i v) := by
  unfold nv zs
  rw [List.map_set, List.map_set]
theorem ixN_nat {n i : Nat} (h : i < n) : ixN n ((i : Nat) : Int) = some i := by
  unfold ixN
  rw [if_pos (by omega), if_pos (by omega)]
  rfl
theorem drop_next {R : List Nat} {i : Nat} (h : i < R.length) : R.drop i = R.getD i 0 :: R.drop (i + 1) := by
  rw [List.getD_eq_getElem?_getD, List.getElem?_eq_getElem h]
  exact List.drop_eq_getElem_cons h
/-- xs[i], read ahead of a store, i not negative -/
def rIx0 (K : PySem.W.Frag) : V → V → Hp → VK → Prop := fun x y H Q => ∃ (p : Addr) (xs : List V) (i : Nat) (v : V), x = .ref p ∧ y = .int ((i : Nat) : Int) ∧ SqL K H p xs ∧ xs[i]? = some v ∧ Q v H
theorem get_list {X : Cx} : PGet X (rIx0 X.K) := by
  intro pins s σ H o i ov iv Q I ro ri h
  obtain ⟨p, xs, k, v, rfl, rfl, hq, hk, q⟩ := h
  cases ro
  obtain ⟨t, rfl⟩ := ri
  obtain ⟨its, r, pl, hz⟩ := I.list hq
  obtain ⟨u, hu, ru⟩ := r.get hk
  have hl := r.length
  have hn := line63
  have hi : k < its.length := (List.getElem?_eq_some_iff.mp hu).1
  refine wpAny_getItem_list pl.isList (by omega) (by omega) (by simpa using hu) ⟨v, H, I, ru, q⟩
theorem pad_rep (L : Nat) : (List.replicate L [V.int 0]).flatten = nv (List.replicate L 0) := by
  unfold nv zs
  rw [List.map_replicate, List.map_replicate]
  induction L with
  | zero => rfl
  | succ m ih => rw [List.replicate_succ, List.flatten_cons, ih, List.replicate_succ] <;> rfl
def spMul : Sp := fun vs H Q _ => ∃ (a b : Addr) (x y : List Nat), vs = [.ref a, .ref b] ∧ H a = some (.lst (nv x)) ∧ H b = some (.lst (nv y)) ∧ 1 ≤ x.length ∧ 1 ≤ y.length ∧ x.length ≤ 100 ∧ y.length ≤ 100 ∧ (∀ v ∈ y, v < 1000) ∧ ∀ H' p, Same H H' → H' p = some (.lst (nv (mulP x y))) → Q (.ref p) H'
theorem kn_mul (T : Tp K mg) : Kn P w K mg base 1 "multiplied" ps_multiplied spMul := by
  refine kn_of T.d_multiplied sc_multiplied (fun vs H Q E h => ?_) (fun f cdv A outer s H vs Q E hr h => ?_)
  · obtain ⟨a, b, x, y, rfl, _⟩ := h
    rfl
  obtain ⟨a, b, x, y, rfl, ha, hb, hx1, hy1, hx, hy, hy9, q⟩ := h
  refine ⟨_, pss_cons (ps_set (i := 2) sc_multiplied.nd rfl (.inl rfl) (pe_op op_rep (pe_lst (pa_cons pe_int pa_nil)) (pe_op op_sub (pe_op op_add (pe_callB call_len_seq rfl T.n_len PySem.boot_len (pa_cons (pv 0) pa_nil)) (pe_callB call_len_seq rfl T.n_len PySem.boot_len (pa_cons (pv 1) pa_nil))) pe_int)))
    (pss_cons (ps_for PassesOwn.never rfl (pi_enum rfl T.n_enumerate (pa_cons (pv 0) pa_nil)) (pg_tup (by rfl) (pgs_cons (pg_name (i := 3) sc_multiplied.nd rfl (.inl rfl)) (pgs_cons (pg_name (i := 4) sc_multiplied.nd rfl (.inl rfl)) pgs_nil)))
      (pss_one (ps_for PassesOwn.never rfl (pi_enum rfl T.n_enumerate (pa_cons (pv 1) pa_nil)) (pg_tup (by rfl) (pgs_cons (pg_name (i := 5) sc_multiplied.nd rfl (.inl rfl)) (pgs_cons (pg_name (i := 6) sc_multiplied.nd rfl (.inl rfl)) pgs_nil)))
        (pss_one (ps_augS (tget := rIx0 K) (pv 2) (pe_op op_add (pv 3) (pv 5)) get_list (pe_op op_mul (pv 4) (pv 6)) ip_add set_list)))))
    (pss_one (ps_ret (pv 2)))), ?_⟩
  refine ⟨(by show 1 ≤ sizeLine; decide), fun z nz => ?_⟩
  have s1 : Same H (upd H z (.lst [.int 0])) := same_new nz _
  refine ⟨_, rfl, a, _, rfl, .inl (SqL.of (s1 _ _ ha)), _, rfl, b, _, rfl, .inl (SqL.of (s1 _ _ hb)), _, _, rfl, rfl, _, _, rfl, rfl, ?_⟩
  generalize hL : x.length + y.length - 1 = L
  have eL : (((nv x).length : Nat) : Int) + (((nv y).length : Nat) : Int) - 1 = ((L : Nat) : Int) := by rw [nv_length, nv_length]; omega
  refine ⟨z, ((L : Nat) : Int), _, rfl, congrArg V.int eL, upd_same, by omega, by omega, ?_, fun fo nf => ?_⟩
  · show 1 * (((L : Nat) : Int)).toNat ≤ sizeLine
    have : (((L : Nat) : Int)).toNat = L := rfl
    rw [this]
    exact sz_le (by omega)
  have s2 := s1.trans (same_new nf (.lst (List.replicate (((L : Nat) : Int)).toNat [V.int 0]).flatten))
  have nfo : H fo = none := by
    cases e : H fo with
    | none => rfl
    | some o =>
      have := s1 _ _ e
      rw [nf] at this
      cases this
  have e0 : (List.replicate (((L : Nat) : Int)).toNat [V.int 0]).flatten = nv (List.replicate L 0) := by
    have h := pad_rep L
    exact h
  have ha2 := s2 _ _ ha
  have hb2 := s2 _ _ hb
  refine ⟨_, rfl, a, _, rfl, SqL.of ha2, ?_⟩
  refine for_it (walk_enum (K := K) (a := a) (xs := nv x)) (fun k σ' H' => Same H H' ∧ ∃ x3 x4 x5 x6 f, σ' = [some (.ref a), some (.ref b), some (.ref fo), x3, x4, x5, x6] ∧ H' fo = some (.lst (nv f)) ∧ f.length = L ∧ mulGo y (x.drop k) k f = mulP x y)
    ⟨s2, none, none, none, none, List.replicate L 0, rfl, upd_same.trans (congrArg (fun xs => some (HO.lst xs)) e0), List.length_replicate, by unfold mulP; rw [hL] <;> rfl⟩ (fun i σ' H' _ pp => SqL.of (pp.1 _ _ ha)) ?_ ?_
  · rintro k v σ' H' H2 hk ⟨s3, x3, x4, x5, x6, f, rfl, hf, fl, eg⟩ ⟨tt, v1, v2, rfl, nt, rfl, g1, g2⟩
    rw [nv_length] at hk
    cases g1
    cases (nv_get hk).symm.trans g2
    rw [drop_next hk] at eg
    generalize hA : x.getD k 0 = A at *
    have s4 := same_new nt (.tup [.int ((k : Nat) : Int), .int ((A : Nat) : Int)])
    refine ⟨tt, _, rfl, SqT.of upd_same, rfl, _, _, rfl, _, _, rfl, rfl, ?_⟩
    refine ⟨_, rfl, b, _, rfl, SqL.of (s4 _ _ (s3 _ _ hb)), ?_⟩
    refine for_it (walk_enum (K := K) (a := b) (xs := nv y)) (fun j σ' H' => Same H H' ∧ ∃ x5 x6 f', σ' = [some (.ref a), some (.ref b), some (.ref fo), some (.int ((k : Nat) : Int)), some (.int ((A : Nat) : Int)), x5, x6] ∧ H' fo = some (.lst (nv f')) ∧ f'.length = L ∧ mulRow k A (y.drop j) j f' = mulRow k A y 0 f)
      ⟨s3.trans s4, x5, x6, f, rfl, s4 _ _ hf, fl, rfl⟩ (fun i σ' H' _ pp => SqL.of (pp.1 _ _ hb)) ?_ ?_
    · rintro j v σ' H3 H4 hj ⟨s5, x5, x6, f', rfl, hf', fl', er⟩ ⟨t2, v1, v2, rfl, nt2, rfl, g1, g2⟩
      rw [nv_length] at hj
      cases g1
      cases (nv_get hj).symm.trans g2
      rw [drop_next hj] at er
      have hB : y.getD j 0 < 1000 := hy9 _ (by rw [List.getD_eq_getElem?_getD, List.getElem?_eq_getElem hj]; exact List.getElem_mem hj)
      generalize hBe : y.getD j 0 = B at *
      have s6 := same_new nt2 (.tup [.int ((j : Nat) : Int), .int ((B : Nat) : Int)])
      refine ⟨t2, _, rfl, SqT.of upd_same, rfl, _, _, rfl, _, _, rfl, rfl, ?_⟩
      have kj : k + j < f'.length := by omega
      have ekj : ((k : Nat) : Int) + ((j : Nat) : Int) = ((k + j : Nat) : Int) := by omega
      refine ⟨_, rfl, _, rfl, _, rfl, _, _, rfl, rfl, fo, _, k + j, _, rfl, congrArg V.int ekj, SqL.of (s6 _ _ hf'), nv_get kj, ?_⟩
      refine ⟨_, rfl, _, rfl, _, _, rfl, rfl, .inr ⟨by omega, by omega⟩, _, _, rfl, rfl, ?_⟩
      refine ⟨fo, _, ((k + j : Nat) : Int), k + j, rfl, congrArg V.int ekj, s6 _ _ hf', by rw [nv_length]; exact ixN_nat kj, ?_⟩
      have ev : ((f'.getD (k + j) 0 : Nat) : Int) + ((A : Nat) : Int) * ((B : Nat) : Int) = ((f'.getD (k + j) 0 + A * B : Nat) : Int) := by
        rw [Int.natCast_add, Int.natCast_mul]
      refine ⟨same_mut (s5.trans s6) nfo _, _, _, f'.set (k + j) (f'.getD (k + j) 0 + A * B), rfl, ?_, by rw [List.length_set, fl'], ?_⟩
      · refine upd_same.trans (congrArg (fun xs => some (HO.lst xs)) ?_)
        rw [← nv_set, ← ev]
      · exact er
    · rintro σ' H3 ⟨s5, x5, x6, f', rfl, hf', fl', er⟩
      have : y.drop (nv y).length = [] := by rw [nv_length, List.drop_length]
      rw [this] at er
      refine ⟨s5, _, _, _, _, f', rfl, hf', fl', ?_⟩
      have er' : f' = mulRow k A y 0 f := er
      rw [er']
      exact eg
  · rintro σ' H' ⟨s3, x3, x4, x5, x6, f, rfl, hf, fl, eg⟩
    have : x.drop (nv x).length = [] := by rw [nv_length, List.drop_length]
    rw [this] at eg
    have eg' : f = mulP x y := eg
    rw [eg'] at hf
    exact ⟨_, rfl, q _ fo s3 hf⟩
end
end FT
set_option Elab.async false
set_option linter.all false
set_option maxRecDepth 100000
set_option maxHeartbeats 4000000
namespace FT
open PySem PySem.Spec PyProof.Rows L2
section
variable {P : Program} {w : World} {K : PySem.W.Frag} {mg : Str → Option Value} {base : Heap}
/-! ### path_ends, ring_ends -/
theorem atI_back {xs : List V} {j : Nat} {v : V} (h1 : 1 ≤ j) (h2 : j ≤ xs.length) (h : xs[xs.length - j]? = some v) : atI xs (-((j : Nat) : Int)) = some v := by
  unfold atI ixN
  rw [if_neg (by omega), if_pos (by omega)]
  have e : (-((j : Nat) : Int) + ((xs.length : Nat) : Int)).toNat = xs.length - j := by omega
  rw [e]
  exact h
theorem pe_len : ∀ k, (pe k).length ≤ k + 1
  | 0 => by decide
  | 1 => by decide
  | 2 => by decide
  | k + 3 => by
    have a := pe_len (k + 1)
    have b := pe_len k
    rw [pe, addP_len, List.length_cons, List.length_cons]
    omega
theorem re_len : ∀ k, (re k).length ≤ k + 1
  | 0 => by decide
  | 1 => by decide
  | 2 => by decide
  | 3 => by decide
  | 4 => by decide
  | 5 => by decide
  | k + 6 => by
    have a := re_len (k + 4)
    have b := re_len (k + 3)
    rw [re, addP_len, List.length_cons, List.length_cons]
    omega
theorem pe_next {k : Nat} (h : 3 ≤ k) : pe k = addP (0 :: pe (k - 2)) (0 :: pe (k - 3)) := by
  obtain ⟨j, rfl⟩ : ∃ j, k = j + 3 := ⟨k - 3, by omega⟩
  rw [pe]
  rfl
theorem re_next {k : Nat} (h : 6 ≤ k) : re k = addP (0 :: re (k - 2)) (0 :: re (k - 3)) := by
  obtain ⟨j, rfl⟩ : ∃ j, k = j + 6 := ⟨k - 6, by omega⟩
  rw [re]
  rfl
abbrev refA (rs : List Addr) : List V := rs.map V.ref
def spPathEnds : Sp := fun vs H Q _ => ∃ m : Nat, vs = [.int (m : Int)] ∧ m ≤ 40 ∧ ∀ H' p, Same H H' → H' p = some (.lst (nv (pe m))) → Q (.ref p) H'
theorem kn_pathends (T : Tp K mg) : Kn P w K mg base 2 "path_ends" ps_pathends spPathEnds := by
  refine kn_of T.d_pathends sc_pathends (fun vs H Q E h => ?_) (fun f cdv A outer s H vs Q E hr h => ?_)
  · obtain ⟨m, rfl, _⟩ := h
    rfl
  obtain ⟨m, rfl, hm, q⟩ := h
  refine ⟨_, pss_cons (ps_set (i := 1) sc_pathends.nd rfl (.inl rfl) (pe_lst (pa_cons (pe_lst (pa_cons pe_int pa_nil)) (pa_cons (pe_lst (pa_cons pe_int (pa_cons pe_int pa_nil))) (pa_cons (pe_lst (pa_cons pe_int (pa_cons pe_int pa_nil))) pa_nil)))))
    (pss_cons (ps_while PassesOwn.never (pt_cmpR op_le (pe_callB call_len_seq rfl T.n_len PySem.boot_len (pa_cons (pv 1) pa_nil)) (pv 0) (nomark _))
      (pss_one (ps_expr (pe_bm PySem.F.plainAttrs_list PySem.F.slot_list_append PySem.F.type_list_append mt_append (pv 1) (pa_cons (pe_kn (kn_added T) hr (pa_cons (pe_op op_cat (pe_lst (pa_cons pe_int pa_nil)) (pe_ix ix_list (pv 1) (pe_un un_neg pe_int) (fun _ _ => rfl))) (pa_cons (pe_op op_cat (pe_lst (pa_cons pe_int pa_nil)) (pe_ix ix_list (pv 1) (pe_un un_neg pe_int) (fun _ _ => rfl))) pa_nil))) pa_nil)))))
    (pss_one (ps_ret (pe_ix ix_list (pv 1) (pv 0) (fun _ _ => rfl))))), ?_⟩
  refine ⟨(by show 1 ≤ sizeLine; decide), fun p0 n0 => ⟨(by show 2 ≤ sizeLine; decide), fun p1 n1 => ⟨(by show 2 ≤ sizeLine; decide), fun p2 n2 => ⟨(by show 3 ≤ sizeLine; decide), fun r nr => ?_⟩⟩⟩⟩
  have s1 : Same H (upd H p0 (.lst [.int 1])) := same_new n0 _
  have s2 := same_new n1 (.lst [.int 0, .int 1])
  have s3 := same_new n2 (.lst [.int 0, .int 2])
  have s4 := same_new nr (.lst [.ref p0, .ref p1, .ref p2])
  have sA := ((s1.trans s2).trans s3).trans s4
  have nrH : H r = none := ((s1.trans s2).trans s3).free nr
  have h0 : upd (upd (upd H p0 (.lst [.int 1])) p1 (.lst [.int 0, .int 1])) p2 (.lst [.int 0, .int 2]) p0 = some (.lst (nv (pe 0))) := s3 _ _ (s2 _ _ upd_same)
  have h1 : upd (upd (upd H p0 (.lst [.int 1])) p1 (.lst [.int 0, .int 1])) p2 (.lst [.int 0, .int 2]) p1 = some (.lst (nv (pe 1))) := s3 _ _ upd_same
  have h2 : upd (upd (upd H p0 (.lst [.int 1])) p1 (.lst [.int 0, .int 1])) p2 (.lst [.int 0, .int 2]) p2 = some (.lst (nv (pe 2))) := upd_same
  refine ⟨fun μ σ' H' => ∃ rs : List Addr, σ' = [some (.int (m : Int)), some (.ref r)] ∧ Same H H' ∧ H' r = some (.lst (refA rs)) ∧ 3 ≤ rs.length ∧ rs.length ≤ max 3 (m + 1) ∧ (∀ i a, rs[i]? = some a → a ≠ r ∧ H' a = some (.lst (nv (pe i)))) ∧ μ + rs.length = max 3 (m + 1),
    ⟨max 3 (m + 1) - 3, [p0, p1, p2], rfl, sA, upd_same, Nat.le_refl _, by show 3 ≤ _; omega, fun i a hi => ?_, by show max 3 (m + 1) - 3 + 3 = _; omega⟩, ?_⟩
  · match i, hi with
    | 0, hi =>
      cases hi
      exact ⟨ne_of_none h0 nr, s4 _ _ h0⟩
    | 1, hi =>
      cases hi
      exact ⟨ne_of_none h1 nr, s4 _ _ h1⟩
    | 2, hi =>
      cases hi
      exact ⟨ne_of_none h2 nr, s4 _ _ h2⟩
    | i + 3, hi => exact absurd hi (by simp)
  · rintro μ σ' H' ⟨rs, rfl, sH, hr', l3, lm, hrs, eμ⟩
    have lr : (refA rs).length = rs.length := List.length_map _
    refine ⟨_, rfl, r, _, rfl, .inl (SqL.of hr'), _, rfl, _, _, rfl, rfl, decide (rs.length ≤ m), ?_, ?_⟩
    · show V.bl (decide ((((refA rs).length : Nat) : Int) ≤ ((m : Nat) : Int))) = _
      rw [lr]
      congr 1
      rw [decide_eq_decide]
      omega
    by_cases hle : rs.length ≤ m
    · rw [decide_eq_true hle]
      refine iteT ⟨_, fun σ' H' w => ⟨μ - 1, by omega, w⟩, ?_⟩
      have g2 : rs.length - 2 < rs.length := by omega
      have g3 : rs.length - 3 < rs.length := by omega
      have a2 : (refA rs)[(refA rs).length - 2]? = some (.ref rs[rs.length - 2]) := by rw [lr, List.getElem?_map, List.getElem?_eq_getElem g2] <;> rfl
      have a3 : (refA rs)[(refA rs).length - 3]? = some (.ref rs[rs.length - 3]) := by rw [lr, List.getElem?_map, List.getElem?_eq_getElem g3] <;> rfl
      obtain ⟨nn2, k2⟩ := hrs _ _ (List.getElem?_eq_getElem g2)
      obtain ⟨nn3, k3⟩ := hrs _ _ (List.getElem?_eq_getElem g3)
      refine ⟨_, rfl, .inl ⟨rfl, _, .inl (.inl hr')⟩, (by show 1 ≤ sizeLine; decide), fun z nz => ?_⟩
      have t1 := same_new nz (.lst [.int 0])
      refine ⟨_, rfl, 2, rfl, r, _, _, _, rfl, rfl, SqL.of (t1 _ _ hr'), atI_back (j := 2) (by omega) (by omega) a2, ?_⟩
      refine ⟨z, _, _, _, rfl, rfl, upd_same, t1 _ _ k2, ?_, fun c1 nc1 => ?_⟩
      · rw [nv_length]
        have := pe_len (rs.length - 2)
        exact sz_le (by show 1 + _ ≤ 1000; omega)
      have t2 := t1.trans (same_new nc1 (.lst ([.int 0] ++ nv (pe (rs.length - 2)))))
      refine ⟨(by show 1 ≤ sizeLine; decide), fun z2 nz2 => ?_⟩
      have t3 := t2.trans (same_new nz2 (.lst [.int 0]))
      refine ⟨_, rfl, 3, rfl, r, _, _, _, rfl, rfl, SqL.of (t3 _ _ hr'), atI_back (j := 3) (by omega) (by omega) a3, ?_⟩
      refine ⟨z2, _, _, _, rfl, rfl, upd_same, t3 _ _ k3, ?_, fun c2 nc2 => ?_⟩
      · rw [nv_length]
        have := pe_len (rs.length - 3)
        exact sz_le (by show 1 + _ ≤ 1000; omega)
      have t4 := t3.trans (same_new nc2 (.lst ([.int 0] ++ nv (pe (rs.length - 3)))))
      have hc1 := ((same_new nz2 (.lst [.int 0])).trans (same_new nc2 (.lst ([.int 0] ++ nv (pe (rs.length - 3)))))) c1 _ upd_same
      refine ⟨c1, c2, 0 :: pe (rs.length - 2), 0 :: pe (rs.length - 3), rfl, hc1, upd_same, ?_, ?_, fun H2 pn s5 hpn => ?_⟩
      · have := pe_len (rs.length - 2)
        rw [List.length_cons]
        omega
      · have := pe_len (rs.length - 3)
        rw [List.length_cons]
        omega
      rw [← pe_next l3] at hpn
      have t5 := t4.trans s5
      refine ⟨r, _, _, rfl, rfl, t5 _ _ hr', by rw [lr]; exact len_le (by omega), ?_⟩
      have pnr : pn ≠ r := fun e => by
        have := t5 _ _ hr'
        rw [← e, hpn] at this
        injection this with this
        injection this with this
        have z1 := congrArg (fun l => l[0]?) this
        have z2 : (refA rs)[0]? = some (.ref rs[0]) := by rw [List.getElem?_map, List.getElem?_eq_getElem (by omega)] <;> rfl
        have z3 : (nv (pe rs.length))[0]? = some (.ref rs[0]) := z1.trans z2
        unfold nv at z3
        rw [List.getElem?_map] at z3
        cases hz : (zs (pe rs.length))[0]? with
        | none => rw [hz] at z3; cases z3
        | some u => rw [hz] at z3; cases z3
      refine ⟨rs ++ [pn], rfl, same_mut (sH.trans t5) nrH _, ?_, by rw [List.length_append]; simp; omega, by rw [List.length_append]; simp; omega, fun i a hi => ?_, by rw [List.length_append]; simp; omega⟩
      · rw [upd_same]
        show _ = some (HO.lst ((rs ++ [pn]).map V.ref))
        rw [List.map_append]
        rfl
      · by_cases hil : i < rs.length
        · rw [List.getElem?_append_left hil] at hi
          obtain ⟨b1, b2⟩ := hrs i a hi
          exact ⟨b1, by rw [upd_ne b1]; exact t5 _ _ b2⟩
        · have il : i = rs.length := by
            have := (List.getElem?_eq_some_iff.mp hi).1
            rw [List.length_append] at this
            simp at this
            omega
          subst il
          rw [List.getElem?_append_right (Nat.le_refl _), Nat.sub_self] at hi
          cases hi
          exact ⟨pnr, by rw [upd_ne pnr]; exact hpn⟩
    · rw [decide_eq_false hle]
      refine iteF ?_
      have hml : m < rs.length := by omega
      obtain ⟨_, km⟩ := hrs _ _ (List.getElem?_eq_getElem hml)
      refine ⟨_, rfl, _, rfl, r, _, _, _, rfl, rfl, SqL.of hr', atI_nat (j := m) (by rw [List.getElem?_map, List.getElem?_eq_getElem hml] <;> rfl), ?_⟩
      exact q _ _ sH km
end
end FT
set_option Elab.async false
set_option linter.all false
set_option maxRecDepth 100000
set_option maxHeartbeats 4000000
namespace FT
open PySem PySem.Spec PyProof.Rows L2
section
variable {P : Program} {w : World} {K : PySem.W.Frag} {mg : Str → Option Value} {base : Heap}
/-! ### ring_ends -/
def spRingEnds : Sp := fun vs H Q _ => ∃ n : Nat, vs = [.int (n : Int)] ∧ 3 ≤ n ∧ n ≤ 40 ∧ ∀ H' p, Same H H' → H' p = some (.lst (nv (re n))) → Q (.ref p) H'
theorem kn_ringends (T : Tp K mg) : Kn P w K mg base 2 "ring_ends" ps_ringends spRingEnds := by
  refine kn_of T.d_ringends sc_ringends (fun vs H Q E h => ?_) (fun f cdv A outer s H vs Q E hr h => ?_)
  · obtain ⟨n, rfl, _⟩ := h
    rfl
  obtain ⟨n, rfl, h3, h40, q⟩ := h
  have hu := hu_of hr
  refine ⟨_, pss_cons (ps_set (i := 1) sc_ringends.nd rfl (.inl rfl) (pe_disp (pps_cons pe_int (pe_lst (pa_cons pe_int (pa_cons pe_int pa_nil))) (pps_cons pe_int (pe_lst (pa_cons pe_int (pa_cons pe_int (pa_cons pe_int pa_nil)))) (pps_cons pe_int (pe_lst (pa_cons pe_int (pa_cons pe_int (pa_cons pe_int pa_nil)))) pps_nil))) (by rfl) (by rfl) (fun z => by cases z) (by decide)))
    (pss_cons (ps_for PassesOwn.never rfl (pi_range2 rfl T.n_range (pa_cons pe_int (pa_cons (pe_op op_add (pv 0) pe_int) pa_nil))) (pg_name (i := 2) sc_ringends.nd rfl (.inl rfl))
      (pss_one (ps_dput hu (pv 1) (pv 2) (pe_kn (kn_added T) hr (pa_cons (pe_op op_cat (pe_lst (pa_cons pe_int pa_nil)) (pe_dget hu (pv 1) (pe_op op_sub (pv 2) pe_int) (fun _ _ => rfl))) (pa_cons (pe_op op_cat (pe_lst (pa_cons pe_int pa_nil)) (pe_dget hu (pv 1) (pe_op op_sub (pv 2) pe_int) (fun _ _ => rfl))) pa_nil))) rfl)))
    (pss_one (ps_ret (pe_dget hu (pv 1) (pv 0) (fun _ _ => rfl))))), ?_⟩
  refine fun d nd => ⟨(by show 2 ≤ sizeLine; decide), fun p0 n0 => ⟨(by show 3 ≤ sizeLine; decide), fun p1 n1 => ⟨(by show 3 ≤ sizeLine; decide), fun p2 n2 => ?_⟩⟩⟩
  have s0 : Same H (upd H d (.dK [])) := same_new nd _
  have s1 := same_new n0 (.lst [.int 0, .int 3])
  have s2 := same_new n1 (.lst [.int 0, .int 0, .int 2])
  have s3 := same_new n2 (.lst [.int 0, .int 0, .int 5])
  have hd := s3 _ _ (s2 _ _ (s1 _ _ (upd_same (H := H) (a := d) (o := .dK []))))
  refine ⟨hd, [(.inl 3, .ref p0), (.inl 4, .ref p1), (.inl 5, .ref p2)], rfl, (by show 3 ≤ 15; decide), ?_⟩
  have k0 := s3 _ _ (s2 _ _ (upd_same (H := upd H d (.dK [])) (a := p0) (o := .lst [.int 0, .int 3])))
  have k1 := s3 _ _ (upd_same (H := upd (upd H d (.dK [])) p0 (.lst [.int 0, .int 3])) (a := p1) (o := .lst [.int 0, .int 0, .int 2]))
  have sA := same_mut (((s0.trans s1).trans s2).trans s3) nd (.dK (mergeK [] [(.inl 3, .ref p0), (.inl 4, .ref p1), (.inl 5, .ref p2)]))
  refine ⟨_, rfl, _, _, rfl, rfl, 6, ((n : Nat) : Int) + 1, rfl, ⟨by omega, by omega, by omega, by omega⟩, ?_⟩
  have em : (((n : Nat) : Int) + 1 - 6).toNat = n - 5 := by omega
  rw [em]
  have nn : ∀ {a : Addr} {l : List V} {H' : Hp} {kvs : List (Key × V)}, H' a = some (.lst l) → H' d = some (.dK kvs) → a ≠ d := fun h1 h2 => ne_of h1 h2 (fun z => nomatch z)
  refine for_range (lo := 6) (n := n - 5) (fun i σ' H' => Same H H' ∧ ∃ x2 kvs, σ' = [some (.int (n : Int)), some (.ref d), x2] ∧ H' d = some (.dK kvs) ∧ kvs.length ≤ 3 + i ∧ ∀ k : Nat, 3 ≤ k → k ≤ 5 + i → ∃ a, valV kvs (.inl ((k : Nat) : Int)) = some (.ref a) ∧ H' a = some (.lst (nv (re k))))
    ⟨sA, none, mergeK [] [(.inl 3, .ref p0), (.inl 4, .ref p1), (.inl 5, .ref p2)], rfl, upd_same, (Nat.le_of_eq rfl : 3 ≤ 3 + 0), fun k a1 a2 => ?_⟩ ?_ ?_
  · have hk : k = 3 ∨ k = 4 ∨ k = 5 := by omega
    rcases hk with rfl | rfl | rfl
    · exact ⟨p0, rfl, by rw [upd_ne (nn k0 hd)]; exact k0⟩
    · exact ⟨p1, rfl, by rw [upd_ne (nn k1 hd)]; exact k1⟩
    · exact ⟨p2, rfl, by rw [upd_ne (nn upd_same hd)]; exact upd_same⟩
  · rintro i σ' H' hi ⟨sH, x2, kvs, rfl, hd', hl, hk⟩
    obtain ⟨a2, v2, l2⟩ := hk (4 + i) (by omega) (by omega)
    obtain ⟨a3, v3, l3⟩ := hk (3 + i) (by omega) (by omega)
    have e2 : (6 : Int) + ((i : Nat) : Int) - 2 = ((4 + i : Nat) : Int) := by omega
    have e3 : (6 : Int) + ((i : Nat) : Int) - 3 = ((3 + i : Nat) : Int) := by omega
    refine ⟨(by show 1 ≤ sizeLine; decide), fun z nz => ?_⟩
    have t1 := same_new nz (.lst [.int 0])
    refine ⟨_, rfl, _, rfl, _, _, rfl, rfl, d, .ref a2, rfl, .inl ⟨kvs, .inl ((4 + i : Nat) : Int), .inl (t1 _ _ hd'), congrArg V.int e2, v2.symm⟩, ?_⟩
    refine ⟨z, a2, _, _, rfl, rfl, upd_same, t1 _ _ l2, ?_, fun c1 nc1 => ?_⟩
    · rw [nv_length]
      have := re_len (4 + i)
      exact sz_le (by show 1 + _ ≤ 1000; omega)
    have t2 := t1.trans (same_new nc1 (.lst ([.int 0] ++ nv (re (4 + i)))))
    refine ⟨(by show 1 ≤ sizeLine; decide), fun z2 nz2 => ?_⟩
    have t3 := t2.trans (same_new nz2 (.lst [.int 0]))
    refine ⟨_, rfl, _, rfl, _, _, rfl, rfl, d, .ref a3, rfl, .inl ⟨kvs, .inl ((3 + i : Nat) : Int), .inl (t3 _ _ hd'), congrArg V.int e3, v3.symm⟩, ?_⟩
    refine ⟨z2, a3, _, _, rfl, rfl, upd_same, t3 _ _ l3, ?_, fun c2 nc2 => ?_⟩
    · rw [nv_length]
      have := re_len (3 + i)
      exact sz_le (by show 1 + _ ≤ 1000; omega)
    have t4 := t3.trans (same_new nc2 (.lst ([.int 0] ++ nv (re (3 + i)))))
    have hc1 := ((same_new nz2 (.lst [.int 0])).trans (same_new nc2 (.lst ([.int 0] ++ nv (re (3 + i)))))) c1 _ upd_same
    refine ⟨c1, c2, 0 :: re (4 + i), 0 :: re (3 + i), rfl, hc1, upd_same, ?_, ?_, fun H2 pn s5 hpn => ?_⟩
    · have := re_len (4 + i)
      rw [List.length_cons]
      omega
    · have := re_len (3 + i)
      rw [List.length_cons]
      omega
    have en : addP (0 :: re (4 + i)) (0 :: re (3 + i)) = re (6 + i) := by
      rw [re_next (k := 6 + i) (by omega)]
      have x1 : 6 + i - 2 = 4 + i := by omega
      have x2 : 6 + i - 3 = 3 + i := by omega
      rw [x1, x2]
    rw [en] at hpn
    have t5 := t4.trans s5
    have hd2 := t5 _ _ hd'
    have e6 : (6 : Int) + ((i : Nat) : Int) = ((6 + i : Nat) : Int) := by omega
    refine ⟨_, rfl, _, rfl, d, _, rfl, .inl ⟨kvs, .inl ((6 + i : Nat) : Int), hd2, congrArg V.int e6, len_le (by omega), rfl⟩, ?_⟩
    refine ⟨same_mut (sH.trans t5) nd _, _, _, rfl, upd_same, ?_, fun k b1 b2 => ?_⟩
    · have := length_putK kvs (.inl ((6 + i : Nat) : Int)) (.ref pn)
      omega
    · rw [valV_put]
      by_cases hk6 : k = 6 + i
      · subst hk6
        exact ⟨pn, if_pos rfl, by rw [upd_ne (nn hpn hd2)]; exact hpn⟩
      · obtain ⟨a, va, la⟩ := hk k b1 (by omega)
        have ne : ¬ (Sum.inl ((k : Nat) : Int) : Key) = Sum.inl ((6 + i : Nat) : Int) := fun e => by
          injection e with e
          omega
        exact ⟨a, by rw [if_neg ne]; exact va, by rw [upd_ne (nn (t5 _ _ la) hd2)]; exact t5 _ _ la⟩
  · rintro σ' H' ⟨sH, x2, kvs, rfl, hd', hl, hk⟩
    obtain ⟨a, va, la⟩ := hk n h3 (by omega)
    exact ⟨_, rfl, _, rfl, d, .ref a, rfl, .inl ⟨kvs, .inl ((n : Nat) : Int), .inl hd', rfl, va.symm⟩, q _ _ sH la⟩
end
end FT
set_option Elab.async false
set_option linter.all false
set_option maxRecDepth 100000
set_option maxHeartbeats 4000000
namespace FT
open PySem PySem.Spec PyProof.Rows L2
section
variable {P : Program} {w : World} {K : PySem.W.Frag} {mg : Str → Option Value} {base : Heap}
/-! ### by_turns, trimmed, fewest_turns, most_turns -/
theorem mulGo_len (b : List Nat) : ∀ (a : List Nat) (k : Nat) (f : List Nat), (mulGo b a k f).length = f.length
  | [], _, _ => rfl
  | x :: r, k, f => by rw [mulGo, mulGo_len b r (k + 1), mulRow_len]
theorem mulP_len (a b : List Nat) : (mulP a b).length = a.length + b.length - 1 := by
  unfold mulP
  rw [mulGo_len, List.length_replicate]
theorem pe_pos : ∀ k, 1 ≤ (pe k).length
  | 0 => by decide
  | 1 => by decide
  | 2 => by decide
  | k + 3 => by
    rw [pe, addP_len, List.length_cons, List.length_cons]
    omega
theorem pe_small {m : Nat} (h : m ≤ 11) : ∀ v ∈ pe m, v < 1000 := by
  have all : (List.range 12).all (fun m => (pe m).all fun v => decide (v < 1000)) = true := by decide +kernel
  intro v hv
  exact of_decide_eq_true (List.all_eq_true.mp (List.all_eq_true.mp all m (List.mem_range.mpr (by omega))) v hv)
theorem byP_snoc (P : List Nat) (m : Nat) : byP (P ++ [m]) = mulP (byP P) (pe m) := by
  unfold byP
  rw [List.foldl_append]
  rfl
theorem csum_snoc (P : List Nat) (m : Nat) : csum (P ++ [m]) = csum P + (m + 1) := by
  have e : csum (P ++ [m]) = csum (m :: P) := csum_perm (List.perm_append_comm (l₁ := P) (l₂ := [m]))
  rw [e]
  show m + 1 + csum P = _
  omega
theorem byP_len {l : Nat} : ∀ P : List Nat, P.length = l → 1 ≤ (byP P).length ∧ (byP P).length ≤ 1 + csum P := by
  induction l with
  | zero =>
    intro P h
    cases P with
    | nil => exact ⟨by decide, by decide⟩
    | cons x r => cases h
  | succ l ih =>
    intro P h
    have hne : P ≠ [] := fun e => by rw [e] at h; cases h
    have hd := List.dropLast_concat_getLast hne
    obtain ⟨a, b⟩ := ih P.dropLast (by rw [List.length_dropLast, h]; rfl)
    rw [← hd, byP_snoc, csum_snoc, mulP_len]
    have c := pe_len (P.getLast hne)
    have d := pe_pos (P.getLast hne)
    omega
theorem csum_take (P : List Nat) (i : Nat) : csum (P.take i) ≤ csum P := by
  have e : csum (P.take i) + csum (P.drop i) = csum P := by
    have h : ∀ a b : List Nat, csum (a ++ b) = csum a + csum b := by
      intro a b
      induction a with
      | nil => show csum b = 0 + csum b; omega
      | cons x r ih =>
        show x + 1 + csum (r ++ b) = x + 1 + csum r + csum b
        rw [ih]
        omega
    rw [← h, List.take_append_drop]
  omega
theorem mem_csum {P : List Nat} {m : Nat} (h : m ∈ P) : m + 1 ≤ csum P := by
  induction P with
  | nil => exact absurd h (by simp)
  | cons x r ih =>
    have e : csum (x :: r) = x + 1 + csum r := rfl
    rcases List.mem_cons.mp h with q | q
    · rw [e, q]
      omega
    · have := ih q
      omega
def spByTurns (mg : Str → Option Value) : Sp := fun vs H Q _ => ∃ (l f g : Addr) (cs hd : List Nat) (rg : Bool), vs = [.ref l, .ref f, .ref g] ∧ mg "path_ends" = some (.ref f) ∧ mg "ring_ends" = some (.ref g) ∧ LnAt H l cs hd rg ∧ Lok cs hd rg ∧
  ∀ H' p told, Same H H' → H' p = some (.lst (nv told)) → told.length ≤ 100 → (∀ b, within told (tv cs.length (rdy cs.length hd rg cs) b) = true) → Q (.ref p) H'
theorem kn_byturns (T : Tp K mg) : Kn P w K mg base 6 "by_turns" ps_byturns (spByTurns mg) := by
  refine kn_of T.d_byturns sc_byturns (fun vs H Q E h => ?_) (fun fn cdv A outer s H vs Q E hr h => ?_)
  · obtain ⟨l, f, g, cs, hd, rg, rfl, _⟩ := h
    rfl
  obtain ⟨l, f, g, cs, hd, rg, rfl, mf, mgg, LA, ok, q⟩ := h
  obtain ⟨f', fd, F1, b1, k1, m1⟩ := (kn_pathends (P := P) (w := w) (base := base) T).ex
  obtain ⟨g', gd, F2, b2, k2, m2⟩ := (kn_ringends (P := P) (w := w) (base := base) T).ex
  cases (mf.symm.trans m1)
  cases (mgg.symm.trans m2)
  refine ⟨_, pss_cons (ps_if (pt_val (pe_kn (kn_swingsin T) hr (pa_cons (pv 0) pa_nil))) (pss_one (ps_ret (pe_callL (i := 2) F2 (hr.mono (by decide)) rfl (.inl rfl) k2 b2 .nil pass0 (pa_cons (pe_callB call_len_seq rfl T.n_len PySem.boot_len (pa_cons (pe_ix ix_tup (pv 0) pe_int (fun _ _ => rfl)) pa_nil)) pa_nil)))) pss_nil)
    (pss_cons (ps_set (i := 3) sc_byturns.nd rfl (.inl rfl) (pe_lst (pa_cons pe_int pa_nil)))
    (pss_cons (ps_for PassesOwn.never rfl (pi_list (pe_kn (kn_insides T) hr (pa_cons (pv 0) pa_nil))) (pg_name (i := 4) sc_byturns.nd rfl (.inl rfl))
      (pss_one (ps_set (i := 3) sc_byturns.nd rfl (.inl rfl) (pe_kn (kn_mul T) hr (pa_cons (pv 3) (pa_cons (pe_callL (i := 1) F1 (hr.mono (by decide)) rfl (.inl rfl) k1 b1 .nil pass0 (pa_cons (pe_callB call_len_seq rfl T.n_len PySem.boot_len (pa_cons (pv 4) pa_nil)) pa_nil)) pa_nil))))))
    (pss_one (ps_ret (pv 3))))), ?_⟩
  have n1 := ok.n1
  have n11 := ok.n11
  have hsub := rdy_sub cs.length hd rg cs
  obtain ⟨c, h, hl, hc, hh⟩ := id LA
  refine ⟨_, rfl, l, cs, hd, rg, rfl, LA, ok, fun H1 s1 => ⟨_, rfl, ?_⟩⟩
  by_cases full : (rdy cs.length hd rg cs).length = cs.length
  · rw [decide_eq_true full]
    refine iteT ⟨rfl, _, rfl, l, _, _, _, rfl, rfl, SqT.of (s1 _ _ hl), atI_nat (j := 0) rfl, c, _, rfl, .inr (SqT.of (s1 _ _ hc)), ?_⟩
    have hrg : rg = true := by
      cases rg with
      | true => rfl
      | false => exact absurd full (row_less ok)
    have h3 := ok.r3 hrg
    have h4 := full_ge h3 full
    refine ⟨cs.length, by rw [nv_length] <;> rfl, h3, by omega, fun H2 p s2 hp => ?_⟩
    refine q _ p _ (s1.trans s2) hp (by have := re_len cs.length; omega) fun b => (tv_full h4 n11 hsub full b).2
  · rw [decide_eq_false full]
    refine iteF ⟨(by show 1 ≤ sizeLine; decide), fun fo nf => ?_⟩
    have s2 := s1.trans (same_new nf (.lst [.int 1]))
    refine ⟨_, rfl, l, cs, hd, rg, rfl, LA.same s2, ok, fun H2 p is s3 hp his pm => ?_⟩
    obtain ⟨tl, al⟩ := tv_lens n1 n11 hsub full
    generalize hP : (is.map fun t => t.2.length) = Pq at *
    have alP : Al Pq := al.perm pm.symm
    have lP : is.length = Pq.length := by rw [← hP, List.length_map]
    refine ⟨p, rfl, ⟨_, SqL.of hp⟩, ?_⟩
    refine for_list (K := K) (a := p) (xs := refL is) (fun i σ' H' => Same H2 H' ∧ ∃ z x4, σ' = [some (.ref l), some (.ref f), some (.ref g), some (.ref z), x4] ∧ H' z = some (.lst (nv (byP (Pq.take i)))))
      ⟨Same.refl _, fo, none, rfl, s3 _ _ upd_same⟩ (fun i σ' H' _ pp => SqL.of (pp.1 _ _ hp)) ?_ ?_
    · rintro i x σ' H' hx ⟨s4, z, x4, rfl, hz⟩
      have hi : i < is.length := by
        have := (List.getElem?_eq_some_iff.mp hx).1
        unfold refL at this
        rw [List.length_map] at this
        exact this
      have ex : x = V.ref is[i].1 := by
        unfold refL at hx
        rw [List.getElem?_map, List.getElem?_eq_getElem hi] at hx
        exact (Option.some.inj hx).symm
      subst ex
      have hli := s4 _ _ (his _ (List.getElem_mem hi))
      have hiP : i < Pq.length := by omega
      have em : Pq.getD i 0 = is[i].2.length := by
        rw [← hP, List.getD_eq_getElem?_getD, List.getElem?_map, List.getElem?_eq_getElem hi]
        rfl
      have mm : Pq.getD i 0 ∈ Pq := by
        rw [List.getD_eq_getElem?_getD, List.getElem?_eq_getElem hiP]
        exact List.getElem_mem hiP
      have m11 : is[i].2.length ≤ 11 := by
        have a1 := mem_csum mm
        have a2 := alP.sum
        omega
      obtain ⟨bl1, bl2⟩ := byP_len (Pq.take i) rfl
      have ct := csum_take Pq i
      have as := alP.sum
      refine ⟨_, rfl, rfl, _, rfl, is[i].1, _, rfl, .inl (SqL.of hli), is[i].2.length, rfl, by omega, fun H3 pp s5 hpp => ?_⟩
      refine ⟨z, pp, _, _, rfl, s5 _ _ hz, hpp, bl1, pe_pos _, by omega, by have := pe_len is[i].2.length; omega, pe_small m11, fun H4 p4 s6 hp4 => ?_⟩
      refine ⟨(s4.trans s5).trans s6, p4, _, rfl, ?_⟩
      rw [take_next hiP, byP_snoc, em]
      exact hp4
    · rintro σ' H' ⟨s4, z, x4, rfl, hz⟩
      have e : Pq.take (refL is).length = Pq := by
        unfold refL
        rw [List.length_map, lP, List.take_length]
      rw [e] at hz
      refine ⟨_, rfl, q _ z (byP Pq) ((s2.trans s3).trans s4) hz ?_ fun b => ?_⟩
      · obtain ⟨_, bl2⟩ := byP_len Pq rfl
        have as := alP.sum
        omega
      · rw [tl b, ← VT_perm pm b]
        exact VT_between alP b
end
end FT
set_option Elab.async false
set_option linter.all false
set_option maxRecDepth 100000
set_option maxHeartbeats 4000000
namespace FT
open PySem PySem.Spec PyProof.Rows L2
section
variable {P : Program} {w : World} {K : PySem.W.Frag} {mg : Str → Option Value} {base : Heap}
/-! ### trimmed, fewest_turns, most_turns -/
theorem trimL_zero (ys : List Nat) : trimL (ys ++ [0]) = trimL ys := by
  unfold trimL
  rw [List.reverse_append]
  rfl
theorem trimL_last {ys : List Nat} {z : Nat} (h : z ≠ 0) : trimL (ys ++ [z]) = ys ++ [z] := by
  unfold trimL
  rw [List.reverse_append]
  show (trimR (z :: ys.reverse)).reverse = _
  have e : Nat.beq z 0 = false := by
    cases q : Nat.beq z 0 with
    | false => rfl
    | true => exact absurd (Nat.eq_of_beq_eq_true q) h
  rw [trimR, e, if_neg Bool.false_ne_true, List.reverse_cons, List.reverse_reverse]
def spTrim : Sp := fun vs H Q _ => ∃ (a : Addr) (x : List Nat), vs = [.ref a] ∧ H a = some (.lst (nv x)) ∧ (∃ v ∈ x, v ≠ 0) ∧ ∀ H' p, Same H H' → H' p = some (.tup (nv (trimL x))) → Q (.ref p) H'
theorem nv_dropLast (ys : List Nat) (z : Nat) : (nv (ys ++ [z])).dropLast = nv ys := by
  rw [← nv_snoc, List.dropLast_concat]
theorem kn_trimmed (T : Tp K mg) : Kn P w K mg base 1 "trimmed" ps_trimmed spTrim := by
  refine kn_of T.d_trimmed sc_trimmed (fun vs H Q E h => ?_) (fun f cdv A outer s H vs Q E hr h => ?_)
  · obtain ⟨a, x, rfl, _⟩ := h
    rfl
  obtain ⟨a, x, rfl, ha, hne, q⟩ := h
  refine ⟨_, pss_cons (ps_set (i := 1) sc_trimmed.nd rfl (.inl rfl) (pe_callTy call_list_of rfl T.n_list (by decide +kernel) (pa_cons (pv 0) pa_nil)))
    (pss_cons (ps_while PassesOwn.never (pt_cmpR op_eq (pe_ix ix_list (pv 1) (pe_un un_neg pe_int) (fun _ _ => rfl)) pe_int (nomark _))
      (pss_one (ps_expr (pe_bm0 PySem.F.plainAttrs_list PySem.F.slot_list_pop PySem.F.type_list_pop mt_pop (pv 1)))))
    (pss_one (ps_ret (pe_callTy call_tuple_of rfl T.n_tuple (by decide +kernel) (pa_cons (pv 1) pa_nil))))), ?_⟩
  refine ⟨_, rfl, a, _, rfl, .inl (SqL.of ha), fun fo nf => ?_⟩
  refine ⟨fun μ σ' H' => ∃ ys : List Nat, σ' = [some (.ref a), some (.ref fo)] ∧ Same H H' ∧ H' fo = some (.lst (nv ys)) ∧ trimL ys = trimL x ∧ (∃ v ∈ ys, v ≠ 0) ∧ μ = ys.length, ⟨_, x, rfl, same_new nf _, upd_same, rfl, hne, rfl⟩, ?_⟩
  rintro μ σ' H' ⟨ys, rfl, sH, hf, et, ⟨v, hv, hv0⟩, rfl⟩
  have yne : ys ≠ [] := List.ne_nil_of_mem hv
  obtain ⟨zs', z, rfl⟩ : ∃ zs' z, ys = zs' ++ [z] := ⟨ys.dropLast, ys.getLast yne, (List.dropLast_concat_getLast yne).symm⟩
  have len : (nv (zs' ++ [z])).length = zs'.length + 1 := by rw [nv_length, List.length_append]; rfl
  have last : (nv (zs' ++ [z]))[(nv (zs' ++ [z])).length - 1]? = some (.int (z : Int)) := by
    rw [len, Nat.add_sub_cancel, nv_get (by rw [List.length_append]; simp)]
    congr 3
    rw [List.getD_eq_getElem?_getD, List.getElem?_append_right (Nat.le_refl _), Nat.sub_self]
    rfl
  refine ⟨_, rfl, 1, rfl, fo, _, _, _, rfl, rfl, SqL.of hf, atI_back (j := 1) (Nat.le_refl _) (by omega) last, rfl, ?_⟩
  have ez : decide (V.int ((z : Nat) : Int) = V.int 0) = decide (z = 0) := by
    rw [decide_eq_decide]
    constructor
    · intro e
      injection e with e
      omega
    · intro e
      rw [e]
      rfl
  refine ⟨decide (z = 0), congrArg V.bl ez, ?_⟩
  by_cases h0 : z = 0
  · subst h0
    rw [decide_eq_true rfl]
    refine iteT ⟨_, fun σ' H' (w : ∃ ys : List Nat, σ' = [some (.ref a), some (.ref fo)] ∧ Same H H' ∧ H' fo = some (.lst (nv ys)) ∧ trimL ys = trimL x ∧ (∃ v ∈ ys, v ≠ 0) ∧ ys.length = zs'.length) => ⟨zs'.length, by rw [List.length_append]; simp, by obtain ⟨ys, a1, a2, a3, a4, a5, a6⟩ := w; exact ⟨ys, a1, a2, a3, a4, a5, a6.symm⟩⟩, ?_⟩
    refine ⟨_, rfl, .inl ⟨rfl, _, .inl (.inl hf)⟩, fo, _, _, rfl, rfl, hf, last, ?_⟩
    refine ⟨zs', rfl, same_mut sH nf _, upd_same.trans (congrArg (fun xs => some (HO.lst xs)) (nv_dropLast zs' 0)), by rw [← et, trimL_zero], ⟨v, ?_, hv0⟩, rfl⟩
    rcases List.mem_append.mp hv with h | h
    · exact h
    · exact absurd (List.mem_singleton.mp h) hv0
  · rw [decide_eq_false h0]
    refine iteF ⟨_, rfl, fo, _, rfl, .inl ⟨SqL.of hf, fun p np => ?_⟩⟩
    rw [trimL_last h0] at et
    refine q _ p (sH.trans (same_new np _)) ?_
    rw [upd_same, et]
theorem posAt_ne {l : List Nat} {f : Nat} {r : List Nat} (h : posAt l = f :: r) : ∃ v ∈ l, v ≠ 0 := by
  have m : f ∈ posAt l := by rw [h]; exact List.mem_cons_self
  unfold posAt at m
  obtain ⟨a, b⟩ := List.mem_filter.mp m
  have a := List.mem_range.mp a
  refine ⟨l.getD f 0, ?_, fun e => ?_⟩
  · rw [List.getD_eq_getElem?_getD, List.getElem?_eq_getElem a]
    exact List.getElem_mem a
  · rw [e] at b
    cases b
def spFewest : Sp := fun vs H Q _ => ∃ (l : Addr) (cs hd : List Nat) (rg : Bool), vs = [.ref l] ∧ LnAt H l cs hd rg ∧ Lok cs hd rg ∧
  ∀ H' (f : Nat), Same H H' → (∀ b, f ≤ tv cs.length (rdy cs.length hd rg cs) b) → Q (.int (f : Int)) H'
theorem kn_fewest (T : Tp K mg) : Kn P w K mg base 7 "fewest_turns" ps_fewestturns spFewest := by
  refine kn_of T.d_fewestturns sc_fewestturns (fun vs H Q E h => ?_) (fun fn cdv A outer s H vs Q E hr h => ?_)
  · obtain ⟨l, cs, hd, rg, rfl, _⟩ := h
    rfl
  obtain ⟨l, cs, hd, rg, rfl, LA, ok, q⟩ := h
  obtain ⟨f', fd, F1, b1, k1, m1⟩ := (kn_pathends (P := P) (w := w) (base := base) T).ex
  obtain ⟨g', gd, F2, b2, k2, m2⟩ := (kn_ringends (P := P) (w := w) (base := base) T).ex
  refine ⟨_, pss_cons (ps_expr (pe_kn (kn_needline T) hr (pa_cons (pv 0) pa_nil)))
    (pss_cons (ps_set (i := 1) sc_fewestturns.nd rfl (.inr rfl) (pe_kn (kn_byturns T) hr (pa_cons (pv 0) (pa_cons (pe_glob (v := .ref f') rfl m1 rfl) (pa_cons (pe_glob (v := .ref g') rfl m2 rfl) pa_nil)))))
    (pss_one (ps_ret (pe_ix ix_list (pe_lc (own := [("k", 2)]) (g := gName 2) rfl sc_fewestturns.nd (pi_range1 rfl T.n_range (pa_cons (pe_callB call_len_seq rfl T.n_len PySem.boot_len (pa_cons (pv 1) pa_nil)) pa_nil)) (blkOk_by (own := [("k", 2)]) (N := ns_fewestturns) (sc := defScope s_fewestturns) (by decide +kernel))
      (fun _ _ _ _ _ => pg_name (i := 2) sc_fewestturns.nd rfl (Or.inl rfl)) (fun _ _ _ _ _ => pts_one (pt_cmpR op_gt (pe_ix (r := rIxL K) ix_list (pv 1) (pv 2) (fun _ _ => rfl)) pe_int (nomark _))) (fun _ _ _ _ _ => pv 2)) pe_int (fun _ _ => rfl))))), ?_⟩
  refine ⟨_, rfl, l, cs, hd, rg, rfl, LA, ok, fun H1 s1 => ?_⟩
  refine ⟨_, rfl, l, f', g', cs, hd, rg, rfl, m1, m2, LA.same s1, ok, fun H2 p told s2 hp tl wi => ?_⟩
  obtain ⟨f, r, ep, _⟩ := within_says (wi true)
  refine ⟨_, rfl, p, _, rfl, .inl (SqL.of hp), (((nv told).length : Nat) : Int), rfl, by rw [nv_length]; omega, by rw [nv_length]; omega, fun D nD => ?_⟩
  have en : ((((nv told).length : Nat) : Int)).toNat = told.length := by rw [nv_length] <;> rfl
  rw [en]
  refine lc_range (lo := 0) (n := told.length) (fun i H' => Same H2 H' ∧ H' D = some (.lst (nv ((List.range i).filter fun k => !Nat.beq (told.getD k 0) 0)))) ⟨same_new nD _, upd_same⟩ (fun i H' hi p' => ?_) (fun H' p' => ?_)
  · have ei : (0 : Int) + ((i : Nat) : Int) = ((i : Nat) : Int) := by omega
    rw [ei]
    refine ⟨rfl, _, rfl, _, rfl, p, _, _, _, rfl, rfl, SqL.of (p'.1 _ _ hp), nv_at hi, _, _, rfl, rfl, ?_⟩
    have eb : decide (((told.getD i 0 : Nat) : Int) > 0) = !Nat.beq (told.getD i 0) 0 := by
      cases q : Nat.beq (told.getD i 0) 0 with
      | true =>
        have := Nat.eq_of_beq_eq_true q
        rw [this]
        decide
      | false =>
        have n0 : told.getD i 0 ≠ 0 := fun e => by rw [e] at q; cases q
        rw [decide_eq_true (by omega)]
        rfl
    refine ⟨!Nat.beq (told.getD i 0) 0, congrArg V.bl eb, ?_⟩
    rw [List.range_succ, List.filter_append]
    cases e1 : Nat.beq (told.getD i 0) 0 with
    | true =>
      refine iteF ?_
      have : List.filter (fun k => !Nat.beq (told.getD k 0) 0) [i] = [] := by
        rw [List.filter_cons_of_neg (by show ¬ (!Nat.beq (told.getD i 0) 0) = true; rw [e1]; decide)]
        rfl
      rw [this, List.append_nil]
      exact p'
    | false =>
      refine iteT ⟨_, rfl, _, p'.2, ?_, ?_⟩
      · rw [nv_length]
        have := List.length_filter_le (fun k => !Nat.beq (told.getD k 0) 0) (List.range i)
        rw [List.length_range] at this
        exact len_le (by omega)
      · have : List.filter (fun k => !Nat.beq (told.getD k 0) 0) [i] = [i] := by
          rw [List.filter_cons_of_pos (by show (!Nat.beq (told.getD i 0) 0) = true; rw [e1]; rfl)]
          rfl
        rw [this, ← nv_snoc]
        exact ⟨same_mut p'.1 nD _, upd_same⟩
  · have hD : H' D = some (.lst (nv (f :: r))) := by
      rw [← ep]
      exact p'.2
    refine ⟨D, _, _, _, rfl, rfl, SqL.of hD, atI_nat (j := 0) (v := .int (f : Int)) rfl, ?_⟩
    refine q _ f ((s1.trans s2).trans p'.1) fun b => ?_
    obtain ⟨f2, r2, ep2, le, _⟩ := within_says (wi b)
    rw [ep] at ep2
    injection ep2 with e1 _
    rw [e1]
    exact le
def spMost : Sp := fun vs H Q _ => ∃ (l : Addr) (cs hd : List Nat) (rg : Bool), vs = [.ref l] ∧ LnAt H l cs hd rg ∧ Lok cs hd rg ∧
  ∀ H' (m : Int), Same H H' → (∀ b, ((tv cs.length (rdy cs.length hd rg cs) b : Nat) : Int) ≤ m) → Q (.int m) H'
theorem kn_most (T : Tp K mg) : Kn P w K mg base 7 "most_turns" ps_mostturns spMost := by
  refine kn_of T.d_mostturns sc_mostturns (fun vs H Q E h => ?_) (fun fn cdv A outer s H vs Q E hr h => ?_)
  · obtain ⟨l, cs, hd, rg, rfl, _⟩ := h
    rfl
  obtain ⟨l, cs, hd, rg, rfl, LA, ok, q⟩ := h
  obtain ⟨f', fd, F1, b1, k1, m1⟩ := (kn_pathends (P := P) (w := w) (base := base) T).ex
  obtain ⟨g', gd, F2, b2, k2, m2⟩ := (kn_ringends (P := P) (w := w) (base := base) T).ex
  refine ⟨_, pss_cons (ps_expr (pe_kn (kn_needline T) hr (pa_cons (pv 0) pa_nil)))
    (pss_one (ps_ret (pe_op op_sub (pe_callB call_len_seq rfl T.n_len PySem.boot_len (pa_cons (pe_kn (kn_trimmed T) hr (pa_cons (pe_kn (kn_byturns T) hr (pa_cons (pv 0) (pa_cons (pe_glob (v := .ref f') rfl m1 rfl) (pa_cons (pe_glob (v := .ref g') rfl m2 rfl) pa_nil)))) pa_nil)) pa_nil)) pe_int))), ?_⟩
  refine ⟨_, rfl, l, cs, hd, rg, rfl, LA, ok, fun H1 s1 => ?_⟩
  refine ⟨_, rfl, l, f', g', cs, hd, rg, rfl, m1, m2, LA.same s1, ok, fun H2 p told s2 hp tl wi => ?_⟩
  obtain ⟨f, r, ep, _⟩ := within_says (wi true)
  refine ⟨p, told, rfl, hp, posAt_ne ep, fun H3 p3 s3 hp3 => ⟨p3, _, rfl, .inr (SqT.of hp3), _, _, rfl, rfl, ?_⟩⟩
  refine q _ _ ((s1.trans s2).trans s3) fun b => ?_
  obtain ⟨_, _, _, _, le⟩ := within_says (wi b)
  rw [nv_length]
  omega
end
end FT
set_option Elab.async false
set_option linter.all false
set_option maxRecDepth 100000
set_option maxHeartbeats 4000000
namespace FT
open PySem PySem.Spec PyProof.Rows L2
section
variable {P : Program} {w : World} {K : PySem.W.Frag} {mg : Str → Option Value} {base : Heap}
/-! ### further -/
theorem sl_to {a : Addr} {H : Hp} {xs : List V} {lo hi : Option Int} {Q : VK} (h : H a = some (.tup xs)) (q : ∀ r H', Same H H' → H' r = some (.tup (cutV xs lo hi)) → Q (.ref r) H') : rSlA K (.ref a) lo hi H Q := by
  refine ⟨a, xs, rfl, SqT.of h, fun z => q a H (Same.refl H) ?_, fun _ p np => q p _ (same_new np _) upd_same⟩
  obtain ⟨z1, z2⟩ := z
  have e : cutV xs lo hi = xs := by
    unfold cutV
    rw [z1, z2, List.drop_zero, Nat.sub_zero, List.take_length]
  rw [e]
  exact h
theorem cat_to {a b : Addr} {H : Hp} {xs ys : List V} {Q : VK} (h1 : H a = some (.tup xs)) (h2 : H b = some (.tup ys)) (hz : xs.length + ys.length ≤ 1000) (q : ∀ r H', Same H H' → H' r = some (.tup (xs ++ ys)) → Q (.ref r) H') : rCatA K (.ref a) (.ref b) H Q := by
  refine ⟨a, b, xs, ys, rfl, rfl, SqT.of h1, SqT.of h2, sz_le hz, fun e => q b H (Same.refl H) ?_, fun _ e => q a H (Same.refl H) ?_, fun _ _ p np => q p _ (same_new np _) upd_same⟩
  · rw [e, List.nil_append]
    exact h2
  · rw [e, List.append_nil]
    exact h1
theorem np_of {σ : L2.St} {H : Hp} {A : Option Int → Hp → Prop} (h : A none H) : tNoPart σ H A := h
theorem nv_take (ks : List Nat) (i : Nat) : nv (ks.take i) = (nv ks).take i := by
  unfold nv zs
  rw [List.map_take, List.map_take]
theorem nv_drop (ks : List Nat) (i : Nat) : nv (ks.drop i) = (nv ks).drop i := by
  unfold nv zs
  rw [List.map_drop, List.map_drop]
theorem nv_app (a b : List Nat) : nv (a ++ b) = nv a ++ nv b := by
  unfold nv zs
  rw [List.map_append, List.map_append]
theorem cut_head {ks : List Nat} {i : Nat} (h : i ≤ ks.length) : cutV (nv ks) none (some ((i : Nat) : Int)) = nv (ks.take i) := by
  unfold cutV
  rw [HT.sIx_none, HT.sIx_nat, nv_length, List.drop_zero, Nat.sub_zero, Nat.min_eq_left h, nv_take]
theorem cut_tail {ks : List Nat} {i : Nat} (h : i ≤ ks.length) : cutV (nv ks) (some ((i : Nat) : Int)) none = nv (ks.drop i) := by
  unfold cutV
  rw [HT.sIx_none, HT.sIx_nat, nv_length, Nat.min_eq_left h, nv_drop]
  refine List.take_of_length_le ?_
  rw [List.length_drop, nv_length]
  exact Nat.le_refl _
/-- each list stands for one of Y, each of Y is there -/
structure Cov (ts : List TN) (Y : List (List Nat)) : Prop where
  to : ∀ t ∈ ts, ∃ y ∈ Y, t.2.Perm y
  all : ∀ y ∈ Y, ∃ t ∈ ts, t.2.Perm y
theorem Cov.snoc {ts : List TN} {Y : List (List Nat)} {u : Addr} {l y : List Nat} (c : Cov ts Y) (h : l.Perm y) : Cov (ts ++ [(u, l)]) (Y ++ [y]) := by
  refine ⟨fun t ht => ?_, fun z hz => ?_⟩
  · rcases List.mem_append.mp ht with ht | ht
    · obtain ⟨y', h1, h2⟩ := c.to t ht
      exact ⟨y', List.mem_append_left _ h1, h2⟩
    · rw [List.mem_singleton.mp ht]
      exact ⟨y, by simp, h⟩
  · rcases List.mem_append.mp hz with hz | hz
    · obtain ⟨t, h1, h2⟩ := c.all z hz
      exact ⟨t, List.mem_append_left _ h1, h2⟩
    · rw [List.mem_singleton.mp hz]
      exact ⟨(u, l), by simp, h⟩
theorem zs_perm {ns : List Int} {l : List Nat} (h : ns.Perm (zs l)) : ∃ m, ns = zs m ∧ m.Perm l := perm_of_map h l rfl
theorem csum_drop {P : List Nat} {i : Nat} (h : i < P.length) : csum (P.drop i) = P.getD i 0 + 1 + csum (P.drop (i + 1)) := by
  rw [drop_next h]
  rfl
theorem csum_len : ∀ P : List Nat, P.length ≤ csum P
  | [] => Nat.le_refl _
  | x :: r => by
    have e : csum (x :: r) = x + 1 + csum r := rfl
    have := csum_len r
    rw [e, List.length_cons]
    omega
theorem pick_from {ts : List TN} : ∀ L : List TA', (∀ x ∈ L, ∃ t ∈ ts, x = (t.1, zs t.2)) → ∃ M : List TN, L = M.map (fun t => (t.1, zs t.2)) ∧ ∀ t ∈ M, t ∈ ts
  | [], _ => ⟨[], rfl, fun t ht => absurd ht (by simp)⟩
  | x :: L, h => by
    obtain ⟨M, e, hM⟩ := pick_from L fun y hy => h y (List.mem_cons_of_mem _ hy)
    obtain ⟨t, ht, et⟩ := h x List.mem_cons_self
    refine ⟨t :: M, by rw [List.map_cons, ← e, ← et], fun u hu => ?_⟩
    rcases List.mem_cons.mp hu with rfl | hu
    · exact ht
    · exact hM u hu
theorem zs_inj {a b : List Nat} (h : zs a = zs b) : a = b := List.map_inj_right (f := fun k : Nat => (k : Int)) (fun x y e => Int.ofNat.inj e) |>.mp h
theorem u64 {k : Nat} {A : Around} (hr : Room k A) : A.units + 64 < cLine := by have := hr.units; omega
def spFurther : Sp := fun vs H Q _ => ∃ (p : Addr) (Ps : List Nat), vs = [.ref p] ∧ H p = some (.tup (nv Ps)) ∧ Al Ps ∧
  ∀ H' z (ts : List TN), Same H H' → H' z = some (.lst (refN ts)) → ts.length < 64 → (∀ t ∈ ts, H' t.1 = some (.tup (nv t.2))) → Cov ts (nx Ps) → Q (.ref z) H'
theorem kn_further (T : Tp K mg) : Kn P w K mg base 1 "further" ps_further spFurther := by
  refine kn_of T.d_further sc_further (fun vs H Q E h => ?_) (fun f cdv A outer s H vs Q E hr h => ?_)
  · obtain ⟨p, Ps, rfl, _⟩ := h
    rfl
  obtain ⟨p, Ps, rfl, hp, al, q⟩ := h
  refine ⟨_, pss_cons (ps_set (i := 1) sc_further.nd rfl (.inl rfl) (pe_lst pa_nil))
    (pss_cons (ps_for PassesOwn.never rfl (pi_enumT rfl T.n_enumerate (pa_cons (pv 0) pa_nil)) (pg_tup (by rfl) (pgs_cons (pg_name (i := 2) sc_further.nd rfl (.inl rfl)) (pgs_cons (pg_name (i := 3) sc_further.nd rfl (.inl rfl)) pgs_nil)))
      (pss_cons (ps_set (i := 4) sc_further.nd rfl (.inl rfl) (pe_op (r := rCatA K) op_catA (pe_slice (r := rSlA K) sl_tupA (pv 0) po_none (po_some (pv 2))) (pe_slice (r := rSlA K) sl_tupA (pv 0) (po_some (pe_op op_add (pv 2) pe_int)) po_none)))
      (pss_one (ps_for PassesOwn.never rfl (pi_range1 rfl T.n_range (pa_cons (pv 3) pa_nil)) (pg_name (i := 5) sc_further.nd rfl (.inl rfl))
        (pss_cons (ps_setLc (own := [("x", 7)]) (i := 6) (g := gName 7) rfl sc_further.nd rfl rfl (sw_true rfl rfl rfl (by decide +kernel)) (pi_tup (pe_tup (pa_cons (pe_op op_sub (pv 5) pe_int) (pa_cons (pe_op op_sub (pe_op op_sub (pv 3) (pv 5)) pe_int) pa_nil)))) (blkOk_by (own := [("x", 7)]) (N := ns_further) (sc := defScope s_further) (by decide +kernel))
          (fun _ _ _ _ _ => pg_name (i := 7) sc_further.nd rfl (Or.inl rfl)) (fun _ _ _ _ _ => pts_one (pt_cmpR op_gt (pv 7) pe_int (nomark _))) (fun _ _ _ _ _ => pv 7))
        (pss_one (ps_expr (pe_bm PySem.F.plainAttrs_list PySem.F.slot_list_append PySem.F.type_list_append mt_append (pv 1) (pa_cons (pe_callTy call_tuple_of rfl T.n_tuple (by decide +kernel) (pa_cons (pe_callB cr_sorted rfl T.n_sorted (by decide +kernel) (pa_cons (pe_op op_cat (pe_callTy call_list_of rfl T.n_list (by decide +kernel) (pa_cons (pv 4) pa_nil)) (pv 6)) pa_nil)) pa_nil)) pa_nil)))))))))
    (pss_one (ps_ret (pe_callB (cr_sortSs rfl (u2 hr)) rfl T.n_sorted (by decide +kernel) (pa_cons (pe_callTy (cr_setOfT rfl (u64 hr)) rfl T.n_set (by decide +kernel) (pa_cons (pv 1) pa_nil)) pa_nil))))), ?_⟩
  have as := al.sum
  refine ⟨Nat.zero_le _, fun fo nf => ?_⟩
  refine ⟨_, rfl, p, _, rfl, SqT.of (same_new nf _ _ _ hp), ?_⟩
  refine for_it (walk_en (K := K) (a := p) (xs := nv Ps)) (fun i σ' H' => Same H H' ∧ ∃ x2 x3 x4 x5 x6 x7 ts, σ' = [some (.ref p), some (.ref fo), x2, x3, x4, x5, x6, x7] ∧ H' fo = some (.lst (refN ts)) ∧ (∀ t ∈ ts, H' t.1 = some (.tup (nv t.2))) ∧ Cov ts ((List.range i).flatMap (nxAt Ps)) ∧ ts.length + csum (Ps.drop i) ≤ csum Ps)
    ⟨same_new nf _, none, none, none, none, none, none, [], rfl, upd_same, fun t ht => absurd ht (by simp), ⟨fun t ht => absurd ht (by simp), fun y hy => absurd hy (by simp)⟩, by rw [List.drop_zero]; exact Nat.le_of_eq (Nat.zero_add _)⟩ (fun i σ' H' _ pp => SqT.of (pp.1 _ _ hp)) ?_ ?_
  · rintro i v σ' H' H2 hi ⟨s1, x2, x3, x4, x5, x6, x7, ts, rfl, hf, hts, cov, tl⟩ ⟨tt, v1, v2, rfl, nt, rfl, g1, g2⟩
    rw [nv_length] at hi
    cases g1
    cases (nv_get hi).symm.trans g2
    rw [csum_drop hi] at tl
    have em : nxAt Ps i = (List.range (Ps.getD i 0)).map fun c => (Ps.take i ++ Ps.drop (i + 1)) ++ fresh c (Ps.getD i 0) := rfl
    have lenP := csum_len Ps
    generalize hm : Ps.getD i 0 = m at *
    have s2 := same_new nt (.tup [.int ((i : Nat) : Int), .int ((m : Nat) : Int)])
    refine ⟨tt, _, rfl, SqT.of upd_same, rfl, _, _, rfl, _, _, rfl, rfl, ?_⟩
    refine ⟨_, rfl, _, rfl, _, rfl, ?_⟩
    refine sl_to (s2 _ _ (s1 _ _ hp)) fun r1 H3 s3 hr1 => ?_
    rw [cut_head (Nat.le_of_lt hi)] at hr1
    refine ⟨_, rfl, _, rfl, _, _, rfl, rfl, _, rfl, ?_⟩
    refine np_of (sl_to (s3 _ _ (s2 _ _ (s1 _ _ hp))) fun r2 H4 s4 hr2 => ?_)
    have ei : (((i : Nat) : Int) + 1) = ((i + 1 : Nat) : Int) := by omega
    rw [ei, cut_tail hi] at hr2
    refine cat_to (s4 _ _ hr1) hr2 (by rw [nv_length, nv_length, List.length_take, List.length_drop]; omega) fun r3 H5 s5 hr3 => ?_
    rw [← nv_app] at hr3
    generalize hrs : Ps.take i ++ Ps.drop (i + 1) = rest at *
    have rl : rest.length ≤ 11 := by
      rw [← hrs, List.length_append, List.length_take, List.length_drop]
      omega
    have sA := ((s2.trans s3).trans s4).trans s5
    refine ⟨_, rfl, ((m : Nat) : Int), rfl, by omega, by omega, ?_⟩
    have et : (((m : Nat) : Int)).toNat = m := rfl
    rw [et]
    refine for_range (lo := 0) (n := m) (fun c σ' H' => Same H H' ∧ H' r3 = some (.tup (nv rest)) ∧ ∃ x5 x6 x7 ts, σ' = [some (.ref p), some (.ref fo), some (.int (i : Int)), some (.int (m : Int)), some (.ref r3), x5, x6, x7] ∧ H' fo = some (.lst (refN ts)) ∧ (∀ t ∈ ts, H' t.1 = some (.tup (nv t.2))) ∧
        Cov ts ((List.range i).flatMap (nxAt Ps) ++ (List.range c).map fun c => rest ++ fresh c m) ∧ ts.length + (m - c) + csum (Ps.drop (i + 1)) ≤ csum Ps)
      ⟨s1.trans sA, hr3, x5, x6, x7, ts, rfl, sA _ _ hf, fun t ht => sA _ _ (hts t ht), by rw [List.range_zero, List.map_nil, List.append_nil]; exact cov, by omega⟩ ?_ ?_
    · rintro c σ' H6 hc ⟨t1, hr6, x5, x6, x7, ts', rfl, hf6, hts6, cov6, tl6⟩
      have ec : (0 : Int) + ((c : Nat) : Int) = ((c : Nat) : Int) := by omega
      rw [ec]
      refine ⟨_, rfl, _, _, rfl, rfl, _, rfl, _, rfl, _, _, rfl, rfl, _, _, rfl, rfl, (by show 2 ≤ sizeLine; decide), fun u nu => ?_⟩
      have t2 := same_new nu (.tup [.int (((c : Nat) : Int) - 1), .int (((m : Nat) : Int) - ((c : Nat) : Int) - 2)])
      refine ⟨u, rfl, ⟨_, SqT.of upd_same⟩, fun D nD => ?_⟩
      have t3 := same_new nD (.lst [])
      have hut := t3 _ _ (upd_same (H := H6) (a := u) (o := .tup [.int (((c : Nat) : Int) - 1), .int (((m : Nat) : Int) - ((c : Nat) : Int) - 2)]))
      have eF : fresh c m = (if Nat.ble 2 c then [c - 1] else []) ++ (if Nat.ble (c + 3) m then [m - c - 2] else []) := rfl
      refine lc_tup (K := K) (a := u) (xs := [.int (((c : Nat) : Int) - 1), .int (((m : Nat) : Int) - ((c : Nat) : Int) - 2)]) (fun j H' => Same H6 H' ∧ H' u = some (.tup [.int (((c : Nat) : Int) - 1), .int (((m : Nat) : Int) - ((c : Nat) : Int) - 2)]) ∧ H' D = some (.lst (nv (if j = 0 then [] else if j = 1 then (if Nat.ble 2 c then [c - 1] else []) else fresh c m))))
        ⟨t2.trans t3, hut, upd_same⟩ (fun j H' _ pp => SqT.of pp.2.1) (fun j x H' hx pp => ?_) (fun H' pp => ?_)
      · obtain ⟨t4, hu', hD⟩ := pp
        have nDo : ∀ b o, H6 b = some o → b ≠ D := fun b o e => ne_of_none (t2 _ _ e) nD
        have uD : u ≠ D := ne_of_none (upd_same (H := H6) (a := u) (o := .tup [.int (((c : Nat) : Int) - 1), .int (((m : Nat) : Int) - ((c : Nat) : Int) - 2)])) nD
        match j, hx with
        | 0, hx =>
          cases hx
          refine ⟨rfl, _, rfl, _, _, rfl, rfl, decide (((c : Nat) : Int) - 1 > 0), rfl, ?_⟩
          by_cases h2 : 2 ≤ c
          · have e1 : decide (((c : Nat) : Int) - 1 > 0) = true := decide_eq_true (by omega)
            rw [e1]
            refine iteT ⟨_, rfl, _, hD, len_le (by show 0 ≤ 1000; decide), fun b o e => by rw [upd_ne (nDo b o e)]; exact t4 b o e, by rw [upd_ne uD]; exact hu', ?_⟩
            have e2 : ((c : Nat) : Int) - 1 = ((c - 1 : Nat) : Int) := by omega
            rw [e2, Nat.ble_eq_true_of_le h2]
            exact upd_same
          · have e1 : decide (((c : Nat) : Int) - 1 > 0) = false := decide_eq_false (by omega)
            rw [e1]
            refine iteF ⟨t4, hu', ?_⟩
            have e2 : Nat.ble 2 c = false := by
              cases e : Nat.ble 2 c with
              | false => rfl
              | true => exact absurd (Nat.le_of_ble_eq_true e) h2
            rw [e2]
            exact hD
        | 1, hx =>
          cases hx
          refine ⟨rfl, _, rfl, _, _, rfl, rfl, decide (((m : Nat) : Int) - ((c : Nat) : Int) - 2 > 0), rfl, ?_⟩
          have hD' : H' D = some (.lst (nv (if Nat.ble 2 c then [c - 1] else []))) := hD
          by_cases h2 : c + 3 ≤ m
          · have e1 : decide (((m : Nat) : Int) - ((c : Nat) : Int) - 2 > 0) = true := decide_eq_true (by omega)
            rw [e1]
            refine iteT ⟨_, rfl, _, hD', ?_, fun b o e => by rw [upd_ne (nDo b o e)]; exact t4 b o e, by rw [upd_ne uD]; exact hu', ?_⟩
            · rw [nv_length]
              split
              · exact len_le (by show 1 ≤ 1000; decide)
              · exact len_le (by show 0 ≤ 1000; decide)
            have e2 : ((m : Nat) : Int) - ((c : Nat) : Int) - 2 = ((m - c - 2 : Nat) : Int) := by omega
            rw [e2, nv_snoc]
            refine upd_same.trans (congrArg (fun xs => some (HO.lst (nv xs))) ?_)
            show (if Nat.ble 2 c then [c - 1] else []) ++ [m - c - 2] = fresh c m
            rw [eF, Nat.ble_eq_true_of_le h2, if_pos (rfl : true = true)]
          · have e1 : decide (((m : Nat) : Int) - ((c : Nat) : Int) - 2 > 0) = false := decide_eq_false (by omega)
            rw [e1]
            refine iteF ⟨t4, hu', ?_⟩
            have e2 : Nat.ble (c + 3) m = false := by
              cases e : Nat.ble (c + 3) m with
              | false => rfl
              | true => exact absurd (Nat.le_of_ble_eq_true e) h2
            refine hD'.trans (congrArg (fun xs => some (HO.lst (nv xs))) ?_)
            show (if Nat.ble 2 c then [c - 1] else []) = fresh c m
            rw [eF, e2, if_neg Bool.false_ne_true, List.append_nil]
      · obtain ⟨t4, hu', hD⟩ := pp
        have hD' : H' D = some (.lst (nv (fresh c m))) := hD
        have fl : (fresh c m).length ≤ 2 := by
          rw [eF, List.length_append]
          split <;> split <;> simp
        refine ⟨_, rfl, .inl ⟨rfl, _, .inl (.inl (t4 _ _ hf6))⟩, ?_⟩
        refine ⟨_, rfl, r3, _, rfl, .inr (SqT.of (t4 _ _ hr6)), fun l1 nl1 => ?_⟩
        have t5 := same_new nl1 (.lst (nv rest))
        refine ⟨_, rfl, l1, D, _, _, rfl, rfl, upd_same, t5 _ _ hD', ?_, fun l2 nl2 => ?_⟩
        · rw [nv_length, nv_length]
          exact sz_le (by omega)
        have t6 := same_new nl2 (.lst (nv rest ++ nv (fresh c m)))
        refine ⟨l2, zs (rest ++ fresh c m), rfl, SqL.of (upd_same.trans (congrArg (fun xs => some (HO.lst xs)) (nv_app rest (fresh c m)).symm)), by rw [List.length_map, List.length_append]; omega, fun ns l3 pm _ nl3 => ?_⟩
        obtain ⟨l, rfl, pl⟩ := zs_perm pm
        have t7 := same_new nl3 (.lst (nv l))
        refine ⟨l3, _, rfl, .inl ⟨SqL.of upd_same, fun l4 nl4 => ?_⟩⟩
        have t8 := same_new nl4 (.tup (nv l))
        have tB := (((t4.trans t5).trans t6).trans t7).trans t8
        have nfl : fo ≠ l4 := ne_of_none ((((t4.trans t5).trans t6).trans t7) _ _ hf6) nl4
        refine ⟨fo, _, _, rfl, rfl, tB _ _ hf6, ?_, ?_⟩
        · unfold refN
          rw [List.length_map]
          exact len_le (by omega)
        · have nft : ∀ t ∈ ts', t.1 ≠ fo := fun t ht e => by
            have := hts6 t ht
            rw [e, hf6] at this
            cases this
          have nfr : r3 ≠ fo := fun e => by
            rw [e, hf6] at hr6
            cases hr6
          refine ⟨same_mut (t1.trans tB) nf _, by rw [upd_ne nfr]; exact tB _ _ hr6, _, _, _, ts' ++ [(l4, l)], rfl, ?_, fun t ht => ?_, ?_, ?_⟩
          · rw [upd_same]
            unfold refN
            rw [List.map_append]
            rfl
          · rcases List.mem_append.mp ht with ht | ht
            · rw [upd_ne (nft t ht)]
              exact tB _ _ (hts6 t ht)
            · rw [List.mem_singleton.mp ht]
              show upd _ fo _ l4 = _
              rw [upd_ne (Ne.symm nfl), upd_same]
              rfl
          · rw [List.range_succ, List.map_append, ← List.append_assoc]
            exact cov6.snoc pl
          · rw [List.length_append]
            show ts'.length + 1 + _ + _ ≤ _
            omega
    · rintro σ' H6 ⟨t1, hr6, x5, x6, x7, ts', rfl, hf6, hts6, cov6, tl6⟩
      refine ⟨t1, _, _, _, _, _, _, ts', rfl, hf6, hts6, ?_, by omega⟩
      rw [List.range_succ, List.flatMap_append, List.flatMap_cons, List.flatMap_nil, List.append_nil, em]
      exact cov6
  · rintro σ' H' ⟨s1, x2, x3, x4, x5, x6, x7, ts, rfl, hf, hts, cov, tl⟩
    rw [nv_length] at cov
    have lt : ts.length < 64 := by omega
    refine ⟨_, rfl, fo, ts.map (fun t => (t.1, zs t.2)), rfl, ?_, fun t ht => ?_, by rw [List.length_map]; exact lt, fun a L na sub all => ?_⟩
    · have e : SqL K H' fo (refsV (ts.map fun t => (t.1, zs t.2))) := by
        rw [refs_zs]
        exact SqL.of hf
      exact e
    · obtain ⟨t0, h0, rfl⟩ := List.mem_map.mp ht
      exact SqT.of (hts t0 h0)
    have s2 := same_new na (SetTO P w a L)
    have hL : ∀ x ∈ L, ∃ t ∈ ts, x = (t.1, zs t.2) := fun x hx => by
      obtain ⟨t, h1, h2⟩ := List.mem_map.mp (sub x hx)
      exact ⟨t, h1, h2.symm⟩
    refine ⟨a, L, rfl, upd_same, fun x hx => ?_, fun L' z mem l64 nz => ?_⟩
    · obtain ⟨t, h1, rfl⟩ := hL x hx
      exact SqT.of (s2 _ _ (hts t h1))
    have s3 := same_new nz (.lst (refsV L'))
    obtain ⟨M, rfl, hM⟩ := pick_from (ts := ts) L' fun x hx => hL x ((mem x).mp hx)
    rw [refs_zs] at s3 ⊢
    refine q _ z M ((s1.trans s2).trans s3) upd_same (by rw [List.length_map] at l64; exact l64) (fun t ht => s3 _ _ (s2 _ _ (hts t (hM t ht)))) ⟨fun t ht => cov.to t (hM t ht), fun y hy => ?_⟩
    obtain ⟨t, h1, h2⟩ := cov.all y hy
    have m1 := all (t.1, zs t.2) (List.mem_map.mpr ⟨t, h1, rfl⟩)
    obtain ⟨x, hx, ex⟩ := List.mem_map.mp m1
    obtain ⟨t', h3, h4⟩ := List.mem_map.mp ((mem x).mpr hx)
    refine ⟨t', h3, ?_⟩
    have e : zs t'.2 = zs t.2 := by
      rw [← h4] at ex
      exact ex
    rw [zs_inj e]
    exact h2
end
end FT
set_option Elab.async false
set_option linter.all false
set_option maxRecDepth 100000
set_option maxHeartbeats 4000000
namespace FT
open PySem PySem.Spec PyProof.Rows L2
section
variable {P : Program} {w : World} {K : PySem.W.Frag} {mg : Str → Option Value} {base : Heap}
/-! ### how large a memo gets; value_of -/
def code (B : Nat) : List Nat → Nat
  | [] => 0
  | x :: r => (x + 1) + B * code B r
theorem code_inj {B : Nat} : ∀ a b : List Nat, (∀ x ∈ a, x + 1 < B) → (∀ x ∈ b, x + 1 < B) → code B a = code B b → a = b
  | [], [], _, _, _ => rfl
  | [], y :: s, _, _, h => by
    have h' : 0 = (y + 1) + B * code B s := h
    omega
  | x :: r, [], _, _, h => by
    have h' : (x + 1) + B * code B r = 0 := h
    omega
  | x :: r, y :: s, ha, hb, h => by
    have h' : (x + 1) + B * code B r = (y + 1) + B * code B s := h
    have hx := ha x List.mem_cons_self
    have hy := hb y List.mem_cons_self
    have e1 := congrArg (· % B) h'
    simp only [Nat.add_mul_mod_self_left] at e1
    rw [Nat.mod_eq_of_lt hx, Nat.mod_eq_of_lt hy] at e1
    have e2 : B * code B r = B * code B s := by omega
    have e3 := Nat.eq_of_mul_eq_mul_left (by omega) e2
    have ih := code_inj r s (fun z hz => ha z (List.mem_cons_of_mem _ hz)) (fun z hz => hb z (List.mem_cons_of_mem _ hz)) e3
    rw [ih, show x = y by omega]
theorem code_lt {B : Nat} : ∀ a : List Nat, (∀ x ∈ a, x + 1 < B) → code B a < B ^ a.length
  | [], _ => by show 0 < B ^ 0; rw [Nat.pow_zero]; exact Nat.one_pos
  | x :: r, h => by
    have ih := code_lt r fun z hz => h z (List.mem_cons_of_mem _ hz)
    have hx := h x List.mem_cons_self
    show (x + 1) + B * code B r < B ^ (r.length + 1)
    have e : B * (code B r + 1) ≤ B * B ^ r.length := Nat.mul_le_mul_left B ih
    rw [Nat.mul_add, Nat.mul_one] at e
    rw [Nat.pow_succ, Nat.mul_comm (B ^ r.length) B]
    omega
theorem keys_of {P : Program} {w : World} {H : Hp} {f : List Nat → Bool → Nat} {dom : List Nat → Prop} : ∀ xs : List MX, (∀ x ∈ xs, MemE H f dom x) → ∃ L : List (List Nat × Bool), xs.map (·.1) = L.map (fun p => nk p.1 p.2) ∧ ∀ p ∈ L, dom p.1
  | [], _ => ⟨[], rfl, fun p hp => absurd hp (by simp)⟩
  | x :: xs, h => by
    obtain ⟨L, e, hL⟩ := keys_of (P := P) (w := w) xs fun y hy => h y (List.mem_cons_of_mem _ hy)
    obtain ⟨ks, b, t, d, ek, _⟩ := h x List.mem_cons_self
    refine ⟨(ks, b) :: L, by rw [List.map_cons, e, ek]; rfl, fun p hp => ?_⟩
    rcases List.mem_cons.mp hp with rfl | hp
    · exact d
    · exact hL p hp
theorem nodup_map {α β : Type} {g : α → β} : ∀ {l : List α}, l.Nodup → (∀ x ∈ l, ∀ y ∈ l, g x = g y → x = y) → (l.map g).Nodup
  | [], _, _ => List.Pairwise.nil
  | x :: l, h, hi => by
    obtain ⟨h1, h2⟩ := List.nodup_cons.mp h
    refine List.nodup_cons.mpr ⟨fun hm => ?_, nodup_map h2 fun a ha b hb => hi a (List.mem_cons_of_mem _ ha) b (List.mem_cons_of_mem _ hb)⟩
    obtain ⟨y, hy, e⟩ := List.mem_map.mp hm
    rw [hi y (List.mem_cons_of_mem _ hy) x List.mem_cons_self e] at hy
    exact h1 hy
theorem mem_few {P : Program} {w : World} {H : Hp} {f : List Nat → Bool → Nat} {dom : List Nat → Prop} {d : Addr} {xs : List MX} {B M : Nat} (m : Mem P w f dom H d xs) (hd : ∀ ks, dom ks → ks.length ≤ M ∧ ∀ x ∈ ks, x + 1 < B) (hB : 0 < B) : xs.length ≤ 2 * B ^ M := by
  obtain ⟨L, e, hL⟩ := keys_of (P := P) (w := w) xs m.es
  have n0 := m.nd
  rw [e] at n0
  have n1 : L.Nodup := nodup_of_map n0
  have lx : xs.length = L.length := by
    have := congrArg List.length e
    rw [List.length_map, List.length_map] at this
    exact this
  have n2 : (L.map fun p => 2 * code B p.1 + p.2.toNat).Nodup := by
    refine nodup_map n1 fun x hx y hy e => ?_
    have e' : 2 * code B x.1 + x.2.toNat = 2 * code B y.1 + y.2.toNat := e
    obtain ⟨x1, x2⟩ := x
    obtain ⟨y1, y2⟩ := y
    have b1 : x2.toNat ≤ 1 := by cases x2 <;> decide
    have b2 : y2.toNat ≤ 1 := by cases y2 <;> decide
    have c1 : code B x1 = code B y1 := by
      have q : 2 * code B x1 + x2.toNat = 2 * code B y1 + y2.toNat := e'
      omega
    have c2 : x2.toNat = y2.toNat := by
      have q : 2 * code B x1 + x2.toNat = 2 * code B y1 + y2.toNat := e'
      omega
    have c3 := code_inj x1 y1 (hd _ (hL _ hx)).2 (hd _ (hL _ hy)).2 c1
    have c4 : x2 = y2 := by revert c2; cases x2 <;> cases y2 <;> decide
    rw [c3, c4]
  have le := nat_nodup_len (L.map fun p => 2 * code B p.1 + p.2.toNat) (List.range (2 * B ^ M)) n2 fun v hv => by
    obtain ⟨p, hp, rfl⟩ := List.mem_map.mp hv
    obtain ⟨l1, l2⟩ := hd _ (hL _ hp)
    have c := code_lt p.1 l2
    have pw : B ^ p.1.length ≤ B ^ M := Nat.pow_le_pow_right hB l1
    have b1 : p.2.toNat ≤ 1 := by cases p.2 <;> decide
    exact List.mem_range.mpr (by omega)
  rw [List.length_map, List.length_range] at le
  omega
theorem al_code (Ps : List Nat) (al : Al Ps) : Ps.length ≤ 5 ∧ ∀ x ∈ Ps, x + 1 < 12 := by
  refine ⟨?_, fun x hx => ?_⟩
  · have h : ∀ l : List Nat, (∀ m ∈ l, 1 ≤ m) → 2 * l.length ≤ csum l := by
      intro l
      induction l with
      | nil => intro _; exact Nat.le_refl _
      | cons x r ih =>
        intro hp
        have a := ih fun m hm => hp m (List.mem_cons_of_mem _ hm)
        have b := hp x List.mem_cons_self
        have e : csum (x :: r) = x + 1 + csum r := rfl
        rw [e, List.length_cons]
        omega
    have := h Ps al.pos
    have := al.sum
    omega
  · have := mem_csum hx
    have := al.sum
    omega
theorem but_mut {d : Addr} {H H' : Hp} {p : Addr} (e : SameBut d H H') (h : H p = none) (o : HO) : SameBut d H (upd H' p o) := fun b u n q => by
  rw [upd_ne (ne_of_none q h)]
  exact e b u n q
theorem Mem.app {P : Program} {w : World} {f : List Nat → Bool → Nat} {dom : List Nat → Prop} {H : Hp} {d D : Addr} {xs : List MX} {a c : List V} (m : Mem P w f dom H d xs) (hD : H D = some (.lst a)) : Mem P w f dom (upd H D (.lst c)) d xs := by
  refine ⟨?_, fun x hx => (m.es x hx).keep fun b ys e => ?_, m.nd⟩
  · rw [upd_ne (ne_of m.at' hD (fun z => nomatch z))]
    exact m.at'
  · rw [upd_ne (ne_of e hD (fun z => nomatch z))]
    exact e
theorem nx_ne {Ps : List Nat} (al : Al Ps) (hne : Ps ≠ []) : nx Ps ≠ [] := by
  cases Ps with
  | nil => exact absurd rfl hne
  | cons x r =>
    have h1 := al.pos x List.mem_cons_self
    have m : ((x :: r).take 0 ++ (x :: r).drop (0 + 1)) ++ fresh 0 ((x :: r).getD 0 0) ∈ nx (x :: r) := by
      unfold nx
      rw [List.mem_flatMap]
      refine ⟨0, List.mem_range.mpr (by simp), ?_⟩
      unfold nxAt
      rw [List.mem_map]
      exact ⟨0, List.mem_range.mpr h1, rfl⟩
    exact List.ne_nil_of_mem m
def told (ts : List TN) (b : Bool) : List Nat := ts.map fun t => 1 + VT t.2 (!b)
theorem cov_val {ts : List TN} {Ps : List Nat} (al : Al Ps) (hne : Ps ≠ []) (cov : Cov ts (nx Ps)) (b : Bool) : VT Ps b = optv b (told ts b) := by
  rw [(VT_turn al hne).1 b]
  refine optv_same fun x => ?_
  unfold told
  rw [List.mem_map, List.mem_map]
  constructor
  · rintro ⟨y, hy, rfl⟩
    obtain ⟨t, h1, h2⟩ := cov.all y hy
    exact ⟨t, h1, by rw [VT_perm h2]⟩
  · rintro ⟨t, ht, rfl⟩
    obtain ⟨y, h1, h2⟩ := cov.to t ht
    exact ⟨y, h1, by rw [VT_perm h2]⟩
theorem max_of {L : List Nat} {m : Int} (hm : m ∈ zs L) (h : ∀ y, y ∈ zs L → y ≤ m) : m = ((optv true L : Nat) : Int) := by
  obtain ⟨j, hj, rfl⟩ := mem_zs.mp hm
  rw [optv_max hj fun x hx => ?_]
  have := h _ (mem_zs.mpr ⟨x, hx, rfl⟩)
  omega
theorem min_of {L : List Nat} {m : Int} (hm : m ∈ zs L) (h : ∀ y, y ∈ zs L → m ≤ y) : m = ((optv false L : Nat) : Int) := by
  obtain ⟨j, hj, rfl⟩ := mem_zs.mp hm
  rw [optv_min hj fun x hx => ?_]
  have := h _ (mem_zs.mpr ⟨x, hx, rfl⟩)
  omega
theorem eqv_empty (Ps : List Nat) : PyData.eqv (.tuple ((zs Ps).map PyData.int)) (.tuple []) = decide (Ps = []) := by
  cases Ps with
  | nil => simp only [PyData.eqv, zs, List.map_nil, PyData.eqvAll, decide_true]
  | cons x r => simp [PyData.eqv, zs, PyData.eqvAll]
theorem u9 {k : Nat} {A : Around} (hr : Room k A) : A.units + 9 < cLine := by have := hr.units; omega
def spVal (P : Program) (w : World) (n : Nat) : Sp := fun vs H Q _ => ∃ (p d : Addr) (b : Bool) (Ps : List Nat) (xs : List MX), vs = [.ref p, .bl b, .ref d] ∧ H p = some (.tup (nv Ps)) ∧ Al Ps ∧ csum Ps < n ∧ Mem P w VT Al H d xs ∧
  ∀ H' xs', SameBut d H H' → Mem P w VT Al H' d xs' → Q (.int ((VT Ps b : Nat) : Int)) H'
theorem val_none {f : Addr} {fd : FuncData} {k : Nat} : FnOk P w K mg base CX0 k f fd ps_valueof (spVal P w 0) := by
  have no : ∀ vs H Q E, ¬ spVal P w 0 vs H Q E := fun vs H Q E h => by
    obtain ⟨p, d, b, Ps, xs, _, _, _, h, _⟩ := h
    omega
  exact ⟨fun vs H Q E h => absurd h (no vs H Q E), fun A outer s H args us vs Q E _ _ _ _ h => absurd h (no vs H Q E)⟩
theorem kn_val_step (T : Tp K mg) (n : Nat) (ih : Kn P w K mg base (n + 2) "value_of" ps_valueof (spVal P w n)) : Kn P w K mg base (n + 3) "value_of" ps_valueof (spVal P w (n + 1)) := by
  refine kn_of T.d_valueof sc_valueof (fun vs H Q E h => ?_) (fun f cdv A outer s H vs Q E hr h => ?_)
  · obtain ⟨p, d, b, Ps, xs, rfl, _⟩ := h
    rfl
  obtain ⟨p, d, b, Ps, xs, rfl, hp, al, hn, mem, q⟩ := h
  refine ⟨_, pss_cons (ps_set (i := 3) sc_valueof.nd rfl (.inl rfl) (pe_tup (pa_cons (pv 0) (pa_cons (pv 1) pa_nil))))
    (pss_cons (ps_if (pt_cmpR (op_eqD hr.units) (pv 0) (pe_tup pa_nil) (nomark _)) (pss_one (ps_ret pe_int)) pss_nil)
    (pss_cons (ps_if (pt_cmp (pc_mnotin (u9 hr) (pv 3) (pv 2)))
      (pss_cons (ps_setLc (own := [("there", 5)]) (i := 4) (g := gName 5) rfl sc_valueof.nd rfl rfl (sw_true rfl rfl rfl (by decide +kernel)) (pi_list (pe_kn (kn_further T) hr (pa_cons (pv 0) pa_nil) (by omega))) (blkOk_by (own := [("there", 5)]) (N := ns_valueof) (sc := defScope s_valueof) (by decide +kernel))
          (fun _ _ _ _ _ => pg_name (i := 5) sc_valueof.nd rfl (Or.inl rfl)) (fun _ _ _ _ _ => pts_nil) (fun _ _ _ _ _ => pe_op op_add pe_int (pe_kn ih hr (pa_cons (pv 5) (pa_cons (pe_not (pv 1)) (pa_cons (pv 2) pa_nil))) (Nat.le_refl _))))
      (pss_one (ps_mput (u9 hr) (pv 2) (pv 3) (pe_ifExp (pt_val (pv 1)) (pe_callB (cr_max rfl) rfl T.n_max (by decide +kernel) (pa_cons (pv 4) pa_nil)) (pe_callB (cr_min rfl) rfl T.n_min (by decide +kernel) (pa_cons (pv 4) pa_nil))) rfl))) pss_nil)
    (pss_one (ps_ret (pe_mget (u9 hr) (pv 2) (pv 3) (fun _ _ => rfl)))))), ?_⟩
  refine ⟨_, rfl, _, rfl, (by show 2 ≤ sizeLine; decide), fun T' nT => ?_⟩
  have s1 := same_new nT (.tup [.ref p, .bl b])
  refine ⟨_, rfl, Nat.zero_le _, fun z0 nz0 => ?_⟩
  have s2 := s1.trans (same_new nz0 (.tup []))
  have s12 := same_new nz0 (.tup [])
  have hT := s12 _ _ (upd_same (H := H) (a := T') (o := .tup [.ref p, .bl b]))
  have hp2 := s2 _ _ hp
  refine ⟨.tuple ((zs Ps).map PyData.int), .tuple [], .tup (SqT.of hp2) (dp_ints _), .tup (SqT.of upd_same) .nil, shaped_tup _, rfl, ?_⟩
  refine ⟨decide (Ps = []), congrArg V.bl (eqv_empty Ps), ?_⟩
  by_cases hne : Ps = []
  · rw [decide_eq_true hne]
    refine iteT ?_
    have := q _ xs (Same.but s2) (mem.keep s2)
    rw [hne, VT_nil] at this
    exact this
  rw [decide_eq_false hne]
  refine iteF ?_
  have mem2 := mem.keep s2
  have key2 : KeyAt (upd (upd H T' (.tup [.ref p, .bl b])) z0 (.tup [])) T' Ps b := ⟨p, hT, hp2⟩
  refine ⟨_, rfl, _, rfl, d, T', xs, VT, Al, Ps, b, rfl, rfl, mem2, key2, !hasK xs (nk Ps b), rfl, ?_⟩
  cases hk : hasK xs (nk Ps b) with
  | true =>
    exact iteF ⟨_, rfl, _, rfl, d, T', xs, VT, Al, Ps, b, rfl, rfl, mem2, key2, hk, q _ xs (Same.but s2) mem2⟩
  | false =>
    refine iteT ⟨_, rfl, p, Ps, rfl, hp2, al, fun H2 z ts s3 hz l64 hts cov => ?_⟩
    have mem3 := mem2.keep s3
    have key3 : KeyAt H2 T' Ps b := ⟨p, s3 _ _ hT, s3 _ _ hp2⟩
    refine ⟨z, rfl, ⟨_, SqL.of hz⟩, fun D nD => ?_⟩
    have dD : D ≠ d := fun e => by
      rw [e] at nD
      rw [mem3.at'] at nD
      cases nD
    have zd : z ≠ d := ne_of hz mem3.at' (fun z => nomatch z)
    have td : ∀ {a : Addr} {ys : List V}, H2 a = some (.tup ys) → a ≠ d := fun h => ne_of h mem3.at' (fun z => nomatch z)
    refine lc_list (K := K) (a := z) (xs := refN ts) (fun i H' => ∃ xs', SameBut d H2 H' ∧ Mem P w VT Al H' d xs' ∧ H' D = some (.lst (nv (told (ts.take i) b))))
      ⟨xs, Same.but (same_new nD _), mem3.keep (same_new nD _), upd_same⟩ (fun i H' _ pp => by obtain ⟨_, sb, _⟩ := pp; exact SqL.of (sb _ _ zd hz)) (fun i x H' hx pp => ?_) (fun H' pp => ?_)
    · obtain ⟨xs', sb, m', hD⟩ := pp
      have hi : i < ts.length := by
        have := (List.getElem?_eq_some_iff.mp hx).1
        unfold refN at this
        rw [List.length_map] at this
        exact this
      have ex : x = V.ref ts[i].1 := by
        unfold refN at hx
        rw [List.getElem?_map, List.getElem?_eq_getElem hi] at hx
        exact (Option.some.inj hx).symm
      subst ex
      have mi := List.getElem_mem hi
      have ht := hts _ mi
      obtain ⟨y, hy, pm⟩ := cov.to _ mi
      obtain ⟨aly, lty⟩ := (VT_turn al hne).2 y hy
      have c1 := csum_perm pm
      refine ⟨rfl, ?_⟩
      refine yes_of ?_
      refine ⟨_, rfl, _, rfl, b, rfl, _, rfl, ts[i].1, d, !b, ts[i].2, xs', rfl, sb _ _ (td ht) ht, aly.perm pm.symm, by omega, m', fun H4 xs4 sb4 m4 => ?_⟩
      have hD4 := sb4 _ _ dD hD
      refine ⟨_, _, rfl, rfl, _, hD4, ?_, xs4, but_mut (sb.trans sb4) nD _, m4.app hD4, ?_⟩
      · rw [nv_length]
        unfold told
        rw [List.length_map]
        have : (ts.take i).length ≤ i := List.length_take_le _ _
        exact len_le (by omega)
      · refine upd_same.trans (congrArg (fun xs => some (HO.lst xs)) ?_)
        have e : told (ts.take (i + 1)) b = told (ts.take i) b ++ [1 + VT ts[i].2 (!b)] := by
          unfold told
          rw [List.take_add_one, List.getElem?_eq_getElem hi, List.map_append]
          rfl
        rw [e, ← nv_snoc]
        rfl
    · obtain ⟨xs', sb, m', hD⟩ := pp
      have e1 : ts.take (refN ts).length = ts := by
        unfold refN
        rw [List.length_map, List.take_length]
      rw [e1] at hD
      have val := cov_val al hne cov b
      have key' : KeyAt H' T' Ps b := key3.keep fun a ys e => sb _ _ (td e) e
      have few : xs'.length < sizeLine := by
        have := mem_few (B := 12) (M := 5) m' al_code (by decide)
        rw [PySem.sizeLine_eq]
        have e : 12 ^ 5 = 248832 := by decide
        omega
      have pos : 0 < (zs (told ts b)).length := by
        unfold zs told
        rw [List.length_map, List.length_map]
        obtain ⟨y, hy⟩ := List.exists_mem_of_ne_nil _ (nx_ne al hne)
        obtain ⟨t, ht, _⟩ := cov.all y hy
        exact List.length_pos_of_mem ht
      refine ⟨_, rfl, b, rfl, ?_⟩
      cases b with
      | true =>
        refine iteT ⟨_, rfl, D, zs (told ts true), rfl, SqL.of hD, pos, fun m hm hb => ?_⟩
        refine ⟨_, rfl, _, rfl, d, T', xs', VT, Al, Ps, true, rfl, rfl, congrArg V.int ((max_of hm hb).trans (by rw [val])), m', key', al, few, fun xs2 m2 hk2 => ?_⟩
        have sb2 := ((Same.but (s2.trans s3)).trans sb).trans (but_upd (d := d) (H := H') (MemO P w d xs2))
        have key5 : KeyAt (upd H' d (MemO P w d xs2)) T' Ps true := key'.keep fun a ys e => by rw [upd_ne (ne_of e m'.at' (fun z => nomatch z))]; exact e
        exact ⟨_, rfl, _, rfl, d, T', xs2, VT, Al, Ps, true, rfl, rfl, m2, key5, hk2, q _ xs2 sb2 m2⟩
      | false =>
        refine iteF ⟨_, rfl, D, zs (told ts false), rfl, SqL.of hD, pos, fun m hm hb => ?_⟩
        refine ⟨_, rfl, _, rfl, d, T', xs', VT, Al, Ps, false, rfl, rfl, congrArg V.int ((min_of hm hb).trans (by rw [val])), m', key', al, few, fun xs2 m2 hk2 => ?_⟩
        have sb2 := ((Same.but (s2.trans s3)).trans sb).trans (but_upd (d := d) (H := H') (MemO P w d xs2))
        have key5 : KeyAt (upd H' d (MemO P w d xs2)) T' Ps false := key'.keep fun a ys e => by rw [upd_ne (ne_of e m'.at' (fun z => nomatch z))]; exact e
        exact ⟨_, rfl, _, rfl, d, T', xs2, VT, Al, Ps, false, rfl, rfl, m2, key5, hk2, q _ xs2 sb2 m2⟩
theorem kn_val (T : Tp K mg) : ∀ n : Nat, Kn P w K mg base (n + 2) "value_of" ps_valueof (spVal P w n)
  | 0 => by
    obtain ⟨f, fd, F, b, m⟩ := T.d_valueof
    exact ⟨f, fd, val_none, b, F.kp, m⟩
  | n + 1 => kn_val_step T n (kn_val T n)
end
end FT
set_option Elab.async false
set_option linter.all false
set_option maxRecDepth 100000
set_option maxHeartbeats 4000000
namespace FT
open PySem PySem.Spec PyProof.Rows L2
section
variable {P : Program} {w : World} {K : PySem.W.Frag} {mg : Str → Option Value} {base : Heap}
/-! ### turns_value -/
theorem same_but_new {d : Addr} {H H1 H' : Hp} (s : Same H H1) (n : H d = none) (sb : SameBut d H1 H') : Same H H' := fun b o e => sb b o (ne_of_none e n) (s b o e)
theorem none_back {H H1 : Hp} {d : Addr} (s : Same H H1) (n : H1 d = none) : H d = none := by
  cases e : H d with
  | none => rfl
  | some o =>
    have := s _ _ e
    rw [n] at this
    cases this
theorem mem_nil {P : Program} {w : World} {f : List Nat → Bool → Nat} {dom : List Nat → Prop} {H : Hp} {d : Addr} : Mem P w f dom (upd H d (MemO P w d [])) d [] := ⟨upd_same, fun x hx => absurd hx (by simp), List.Pairwise.nil⟩
def rLn (K : PySem.W.Frag) : List V → Hp → VK → Prop := fun xs H Q => ∃ p ys, xs = [.ref p] ∧ (SqL K H p ys ∨ SqT K H p ys) ∧ Q (.int ((ys.length : Nat) : Int)) H
def spTurns : Sp := fun vs H Q _ => ∃ (l : Addr) (cs hd : List Nat) (rg b : Bool), vs = [.ref l, .bl b] ∧ LnAt H l cs hd rg ∧ Lok cs hd rg ∧ ∀ H', Same H H' → Q (.int ((tv cs.length (rdy cs.length hd rg cs) b : Nat) : Int)) H'
theorem kn_turns (T : Tp K mg) : Kn P w K mg base 15 "turns_value" ps_turnsvalue spTurns := by
  refine kn_of T.d_turnsvalue sc_turnsvalue (fun vs H Q E h => ?_) (fun f cdv A outer s H vs Q E hr h => ?_)
  · obtain ⟨l, cs, hd, rg, b, rfl, _⟩ := h
    rfl
  obtain ⟨l, cs, hd, rg, b, rfl, LA, ok, q⟩ := h
  obtain ⟨t0, g0⟩ := T.c_MOST_READY
  refine ⟨_, pss_cons (ps_expr (pe_kn (kn_needline T) hr (pa_cons (pv 0) pa_nil)))
    (pss_cons (ps_if (pt_not (pt_val (pe_isi (T := "bool") (pv 1) T.n_isinstance T.n_bool))) pss_never pss_nil)
    (pss_cons (ps_if (pt_cmpR op_gt (pe_callB call_len_seq rfl T.n_len PySem.boot_len (pa_cons (pe_kn (kn_readyin T) hr (pa_cons (pv 0) pa_nil)) pa_nil)) (pe_glob (v := .int 16) rfl g0 ⟨_, rfl⟩) (nomark _)) pss_never pss_nil)
    (pss_cons (ps_if (pt_val (pe_kn (kn_swingsin T) hr (pa_cons (pv 0) pa_nil)))
      (pss_one (ps_ret (pe_op op_add pe_int (pe_kn (kn_val T 12) hr (pa_cons (pe_tup (pa_cons (pe_op op_sub (pe_callB call_len_seq rfl T.n_len PySem.boot_len (pa_cons (pe_ix ix_tup (pv 0) pe_int (fun _ _ => rfl)) pa_nil)) pe_int) pa_nil)) (pa_cons (pe_not (pv 1)) (pa_cons pe_mnew pa_nil))))))) pss_nil)
    (pss_one (ps_ret (pe_kn (kn_val T 12) hr (pa_cons (pe_callTy call_tuple_of rfl T.n_tuple (by decide +kernel) (pa_cons (pe_callB cr_sorted rfl T.n_sorted (by decide +kernel) (pa_cons
      (pe_lc (own := [("some", 2)]) (g := gName 2) rfl sc_turnsvalue.nd (pi_list (pe_kn (kn_insides T) hr (pa_cons (pv 0) pa_nil))) (blkOk_by (own := [("some", 2)]) (N := ns_turnsvalue) (sc := defScope s_turnsvalue) (by decide +kernel))
        (fun _ _ _ _ _ => pg_name (i := 2) sc_turnsvalue.nd rfl (Or.inl rfl)) (fun _ _ _ _ _ => pts_nil) (fun _ _ _ _ _ => pe_callB (r := rLn K) call_len_seq rfl T.n_len PySem.boot_len (pa_cons (pv 2) pa_nil))) pa_nil)) pa_nil)) (pa_cons (pv 1) (pa_cons pe_mnew pa_nil))))))))), ?_⟩
  have n1 := ok.n1
  have n11 := ok.n11
  have hsub := rdy_sub cs.length hd rg cs
  have rl := sub_len hsub
  obtain ⟨c, h, hl, hc, hh⟩ := id LA
  refine ⟨_, rfl, l, cs, hd, rg, rfl, LA, ok, fun H1 s1 => ?_⟩
  refine ⟨_, rfl, _, _, _, _, true, rfl, .ty _, .base (.bl b), kit_ty (by decide +kernel), true, rfl, iteF ?_⟩
  refine ⟨_, rfl, l, cs, hd, rg, rfl, LA.same s1, ok, fun H2 p s2 hp => ⟨p, _, rfl, .inl (SqL.of hp), _, _, rfl, rfl, ?_⟩⟩
  have e16 : decide ((((nv (rdy cs.length hd rg cs)).length : Nat) : Int) > 16) = false := decide_eq_false (by rw [nv_length]; omega)
  refine ⟨false, congrArg V.bl e16, iteF ?_⟩
  refine ⟨_, rfl, l, cs, hd, rg, rfl, LA.same (s1.trans s2), ok, fun H3 s3 => ⟨_, rfl, ?_⟩⟩
  have sA := (s1.trans s2).trans s3
  by_cases full : (rdy cs.length hd rg cs).length = cs.length
  · rw [decide_eq_true full]
    have hrg : rg = true := by
      cases rg with
      | true => rfl
      | false => exact absurd full (row_less ok)
    have h3 := ok.r3 hrg
    have h4 := full_ge h3 full
    refine iteT ⟨_, rfl, l, _, _, _, rfl, rfl, SqT.of (sA _ _ hl), atI_nat (j := 0) rfl, c, _, rfl, .inr (SqT.of (sA _ _ hc)), _, _, rfl, rfl, (by show 1 ≤ sizeLine; decide), fun u nu => ?_⟩
    have e3 : (((nv cs).length : Nat) : Int) - 3 = ((cs.length - 3 : Nat) : Int) := by rw [nv_length]; omega
    have s4 := same_new nu (.tup [.int ((((nv cs).length : Nat) : Int) - 3)])
    refine ⟨_, rfl, b, rfl, fun d nd => ?_⟩
    have s5 := same_new nd (MemO P w d [])
    have hu' : upd (upd H3 u (.tup [.int ((((nv cs).length : Nat) : Int) - 3)])) d (MemO P w d []) u = some (.tup (nv [cs.length - 3])) := by
      refine (s5 _ _ upd_same).trans (congrArg (fun xs => some (HO.tup xs)) ?_)
      show [V.int ((((nv cs).length : Nat) : Int) - 3)] = [V.int ((cs.length - 3 : Nat) : Int)]
      rw [e3]
    have al : Al [cs.length - 3] := ⟨fun m hm => by rw [List.mem_singleton.mp hm]; omega, by show cs.length - 3 + 1 + 0 ≤ 11; omega⟩
    refine ⟨u, d, !b, [cs.length - 3], [], rfl, hu', al, by show cs.length - 3 + 1 + 0 < 12; omega, mem_nil, fun H' xs' sb _ => ?_⟩
    have fin := q H' (same_but_new ((sA.trans s4).trans s5) (none_back (sA.trans s4) nd) sb)
    rw [(tv_full h4 n11 hsub full b).1] at fin
    refine ⟨_, _, rfl, rfl, ?_⟩
    have e : ((1 + VT [cs.length - 3] (!b) : Nat) : Int) = 1 + ((VT [cs.length - 3] (!b) : Nat) : Int) := by omega
    rw [e] at fin
    exact fin
  · rw [decide_eq_false full]
    refine iteF ⟨_, rfl, l, cs, hd, rg, rfl, LA.same sA, ok, fun H4 z is s4 hz his pm => ?_⟩
    obtain ⟨tl, al⟩ := tv_lens n1 n11 hsub full
    have few : is.length ≤ 11 := by
      have e := pm.length_eq
      unfold lens at e
      rw [List.length_map, List.length_map] at e
      have e1 : (starts cs.length (rdy cs.length hd rg cs)).length ≤ (rdy cs.length hd rg cs).length := List.length_filter_le _ _
      omega
    refine ⟨z, rfl, ⟨_, SqL.of hz⟩, fun D nD => ?_⟩
    refine lc_list (K := K) (a := z) (xs := refL is) (fun i H' => Same H4 H' ∧ H' D = some (.lst (nv ((is.take i).map fun t => t.2.length))))
      ⟨same_new nD _, upd_same⟩ (fun i H' _ pp => SqL.of (pp.1 _ _ hz)) (fun i x H' hx pp => ?_) (fun H' pp => ?_)
    · have hi : i < is.length := by
        have := (List.getElem?_eq_some_iff.mp hx).1
        unfold refL at this
        rw [List.length_map] at this
        exact this
      have ex : x = V.ref is[i].1 := by
        unfold refL at hx
        rw [List.getElem?_map, List.getElem?_eq_getElem hi] at hx
        exact (Option.some.inj hx).symm
      subst ex
      have hli := pp.1 _ _ (his _ (List.getElem_mem hi))
      refine ⟨rfl, ?_⟩
      refine yes_of ?_
      refine ⟨_, rfl, is[i].1, _, rfl, .inl (SqL.of hli), _, pp.2, ?_, same_mut pp.1 nD _, ?_⟩
      · rw [nv_length, List.length_map]
        have : (is.take i).length ≤ i := List.length_take_le _ _
        exact len_le (by omega)
      · refine upd_same.trans (congrArg (fun xs => some (HO.lst xs)) ?_)
        rw [List.take_add_one, List.getElem?_eq_getElem hi, List.map_append]
        exact nv_snoc _ _
    · obtain ⟨s5, hD⟩ := pp
      have e1 : is.take (refL is).length = is := by
        unfold refL
        rw [List.length_map, List.take_length]
      rw [e1] at hD
      refine ⟨D, zs (is.map fun t : TL => t.2.length), rfl, SqL.of hD, by rw [List.length_map, List.length_map]; omega, fun ns l3 pm3 _ nl3 => ?_⟩
      obtain ⟨L, rfl, pL⟩ := zs_perm pm3
      have s6 := same_new nl3 (.lst ((zs L).map V.int))
      refine ⟨l3, _, rfl, .inl ⟨SqL.of upd_same, fun u nu => ?_⟩⟩
      have s7 := same_new nu (.tup ((zs L).map V.int))
      refine ⟨_, rfl, fun d nd => ?_⟩
      have s8 := same_new nd (MemO P w d [])
      have pA := pL.trans pm
      have sB := (((sA.trans s4).trans s5).trans s6).trans s7
      have alL := al.perm pA.symm
      have cl := alL.sum
      refine ⟨u, d, b, L, [], rfl, s8 _ _ upd_same, alL, by omega, mem_nil, fun H' xs' sb _ => ?_⟩
      have fin := q H' (same_but_new (sB.trans s8) (none_back sB nd) sb)
      rw [tl b, ← VT_perm pA b] at fin
      exact fin
end
end FT
set_option Elab.async false
set_option linter.all false
set_option maxRecDepth 100000
set_option maxHeartbeats 4000000
namespace FT
open PySem PySem.Spec PyProof.Rows L2
section
variable {P : Program} {w : World} {K : PySem.W.Frag} {mg : Str → Option Value} {base : Heap}
/-! ### _law_held, _law_ready -/
theorem kn_Lheld (T : Tp K mg) : Kn P w K mg base 1 "_law_held" ps_Lheld spHeldIn := by
  refine kn_of T.d_Lheld sc_Lheld (fun vs H Q E h => ?_) (fun f cdv A outer s H vs Q E hr h => ?_)
  · obtain ⟨l, cs, hd, rg, rfl, _⟩ := h
    rfl
  obtain ⟨l, cs, hd, rg, rfl, LA, ok, q⟩ := h
  refine ⟨_, pss_cons (ps_set (i := 1) sc_Lheld.nd rfl (.inr rfl) (pe_callB call_len_seq rfl T.n_len PySem.boot_len (pa_cons (pe_ix ix_tup (pv 0) pe_int (fun _ _ => rfl)) pa_nil)))
    (pss_one (ps_ret (pe_lc (own := [("_law_k", 2)]) (g := gName 2) rfl sc_Lheld.nd (pi_range1 rfl T.n_range (pa_cons (pv 1) pa_nil)) (blkOk_by (own := [("_law_k", 2)]) (N := ns_Lheld) (sc := defScope s_Lheld) (by decide +kernel))
      (fun _ _ _ _ _ => pg_name (i := 2) sc_Lheld.nd rfl (Or.inl rfl)) (fun _ _ _ _ _ => pts_one (PW.pt (pw_or (pt_cmpR (r := rIn K false) op_in_seq (pv 2) (pe_ix (r := rIxT K) ix_tup (pv 0) pe_int (fun _ _ => rfl)) rfl)
        (pw_or1 (PW.pt (pw_and (pt_not (pt_val (pe_ix (r := rIxT K) ix_tup (pv 0) pe_int (fun _ _ => rfl)))) (pw_and1 (pt_cmpR (r := rIn K false) op_in_seq (pv 2) (pe_lst (pa_cons pe_int (pa_cons (pe_op op_sub (pv 1) pe_int) pa_nil))) rfl)))))))) (fun _ _ _ _ _ => pv 2)))), ?_⟩
  obtain ⟨c, h, hl, hc, hh⟩ := LA
  have n1 := ok.n1
  have n11 := ok.n11
  refine ⟨_, rfl, l, _, _, _, rfl, rfl, SqT.of hl, atI_nat (j := 0) rfl, c, _, rfl, .inr (SqT.of hc), ?_⟩
  rw [nv_length]
  refine ⟨_, rfl, ((cs.length : Nat) : Int), rfl, by omega, by omega, fun D nD => ?_⟩
  have en : (((cs.length : Nat) : Int)).toNat = cs.length := rfl
  rw [en]
  refine lc_range (lo := 0) (n := cs.length) (fun i H' => Same H H' ∧ H' D = some (.lst (nv ((List.range i).filter (hld cs.length hd rg))))) ⟨same_new nD _, upd_same⟩ (fun i H' hi p' => ?_) (fun H' p' => ?_)
  · have ei : (0 : Int) + ((i : Nat) : Int) = ((i : Nat) : Int) := by omega
    rw [ei]
    have yes : ∀ {H2 : Hp}, Same H' H2 → hld cs.length hd rg i = true → ∃ acc, H2 D = some (.lst acc) ∧ acc.length < sizeLine ∧ (Same H (upd H2 D (.lst (acc ++ [.int ((i : Nat) : Int)]))) ∧ upd H2 D (.lst (acc ++ [.int ((i : Nat) : Int)])) D = some (.lst (nv ((List.range (i + 1)).filter (hld cs.length hd rg))))) := fun {H2} s2 e => by
      refine ⟨_, s2 _ _ p'.2, ?_, same_mut (p'.1.trans s2) nD _, ?_⟩
      · rw [nv_length]
        have := List.length_filter_le (hld cs.length hd rg) (List.range i)
        rw [List.length_range] at this
        exact len_le (by omega)
      · rw [List.range_succ, List.filter_append]
        have : List.filter (hld cs.length hd rg) [i] = [i] := by simp [e]
        rw [this, ← nv_snoc]
        exact upd_same
    have no : ∀ {H2 : Hp}, Same H' H2 → hld cs.length hd rg i = false → (Same H H2 ∧ H2 D = some (.lst (nv ((List.range (i + 1)).filter (hld cs.length hd rg))))) := fun {H2} s2 e => by
      rw [List.range_succ, List.filter_append]
      have : List.filter (hld cs.length hd rg) [i] = [] := by simp [e]
      rw [this, List.append_nil]
      exact ⟨p'.1.trans s2, s2 _ _ p'.2⟩
    have hle : hld cs.length hd rg i = (decide (i ∈ hd) || (!rg && (decide (i = 0) || decide (i = cs.length - 1)))) := rfl
    refine ⟨rfl, _, rfl, _, rfl, l, _, _, _, rfl, rfl, SqT.of (p'.1 _ _ hl), atI_nat (j := 1) rfl, h, _, rfl, .inr (SqT.of (p'.1 _ _ hh)), rfl, nv_flat _, ?_⟩
    refine ⟨decide (i ∈ hd), congrArg V.bl nv_in, ?_⟩
    by_cases m1 : i ∈ hd
    · rw [decide_eq_true m1]
      refine iteT (iteT ⟨_, rfl, yes (Same.refl H') ?_⟩)
      rw [hle, decide_eq_true m1, Bool.true_or]
    · rw [decide_eq_false m1]
      refine iteF ⟨_, rfl, l, _, _, _, rfl, rfl, SqT.of (p'.1 _ _ hl), atI_nat (j := 2) rfl, rg, rfl, ?_⟩
      cases rg with
      | true =>
        refine iteF (iteF (no (Same.refl H') ?_))
        rw [hle, decide_eq_false m1]
        rfl
      | false =>
        refine iteT ⟨_, rfl, _, rfl, _, _, rfl, rfl, (by show 2 ≤ sizeLine; decide), fun z nz => ?_⟩
        have s2 := same_new nz (.lst [.int 0, .int (((cs.length : Nat) : Int) - 1)])
        have e2 : ([.int 0, .int (((cs.length : Nat) : Int) - 1)] : List V) = nv [0, cs.length - 1] := by
          have : ((cs.length : Nat) : Int) - 1 = ((cs.length - 1 : Nat) : Int) := by omega
          rw [this]
          rfl
        refine ⟨z, _, rfl, .inl (SqL.of upd_same), rfl, rfl, ?_⟩
        have e3 : inV (.int ((i : Nat) : Int)) [.int 0, .int (((cs.length : Nat) : Int) - 1)] = decide (i ∈ [0, cs.length - 1]) := by rw [e2, nv_in]
        refine ⟨decide (i ∈ [0, cs.length - 1]), congrArg V.bl e3, ?_⟩
        by_cases m2 : i ∈ [0, cs.length - 1]
        · rw [decide_eq_true m2]
          refine iteT ⟨_, rfl, yes s2 ?_⟩
          rw [hle, decide_eq_false m1]
          have m3 : i = 0 ∨ i = cs.length - 1 := by simpa using m2
          rcases m3 with e | e <;> simp [e]
        · rw [decide_eq_false m2]
          refine iteF (no s2 ?_)
          rw [hle, decide_eq_false m1]
          have m3 : ¬ i = 0 ∧ ¬ i = cs.length - 1 := by simpa using m2
          rw [decide_eq_false m3.1, decide_eq_false m3.2]
          rfl
  · exact q _ D p'.1 p'.2
theorem atI_neg {xs : List V} {v : Int} (h1 : v < 0) (h2 : 0 ≤ v + ((xs.length : Nat) : Int)) : atI xs v = xs[(v + ((xs.length : Nat) : Int)).toNat]? := by
  unfold atI ixN
  rw [if_neg (by omega), if_pos (by omega)]
  rfl
theorem at_left {cs : List Nat} {k : Nat} (h : k < cs.length) : atI (nv cs) (((k : Nat) : Int) - 1) = some (.int ((cs.getD (lft cs.length k) 0 : Nat) : Int)) := by
  have L := lft_lt h
  by_cases e : k = 0
  · subst e
    rw [atI_neg (by omega) (by rw [nv_length]; omega), nv_length]
    have e2 : (((0 : Nat) : Int) - 1 + ((cs.length : Nat) : Int)).toNat = lft cs.length 0 := by
      rw [lft_eq h, if_pos rfl]
      omega
    rw [e2]
    exact nv_get L
  · have e2 : ((k : Nat) : Int) - 1 = ((lft cs.length k : Nat) : Int) := by
      rw [lft_eq h, if_neg e]
      omega
    rw [e2]
    exact nv_at L
theorem at_right {cs : List Nat} {k : Nat} (h : k < cs.length) : atI (nv cs) (((k : Nat) : Int) + 1 - ((cs.length : Nat) : Int)) = some (.int ((cs.getD (rgt cs.length k) 0 : Nat) : Int)) := by
  have R := rgt_lt h
  by_cases e : k + 1 = cs.length
  · have e2 : ((k : Nat) : Int) + 1 - ((cs.length : Nat) : Int) = ((rgt cs.length k : Nat) : Int) := by
      rw [rgt_eq h, if_pos e]
      omega
    rw [e2]
    exact nv_at R
  · rw [atI_neg (by omega) (by rw [nv_length]; omega), nv_length]
    have e2 : (((k : Nat) : Int) + 1 - ((cs.length : Nat) : Int) + ((cs.length : Nat) : Int)).toNat = rgt cs.length k := by
      rw [rgt_eq h, if_neg e]
      omega
    rw [e2]
    exact nv_get R
theorem dec_int (x y : Nat) : decide (V.int (x : Int) = V.int (y : Int)) = decide (x = y) := by
  rw [decide_eq_decide]
  constructor
  · intro e
    injection e with e
    exact Int.ofNat.inj e
  · intro e
    rw [e]
def spReadyL : Sp := fun vs H Q _ => ∃ (l : Addr) (cs hd : List Nat) (rg : Bool), vs = [.ref l] ∧ LnAt H l cs hd rg ∧ Lok cs hd rg ∧ ∀ H' p, Same H H' → H' p = some (.lst (nv (rdy cs.length hd rg cs))) → Q (.ref p) H'
theorem kn_Lready (T : Tp K mg) : Kn P w K mg base 2 "_law_ready" ps_Lready spReadyL := by
  refine kn_of T.d_Lready sc_Lready (fun vs H Q E h => ?_) (fun f cdv A outer s H vs Q E hr h => ?_)
  · obtain ⟨l, cs, hd, rg, rfl, _⟩ := h
    rfl
  obtain ⟨l, cs, hd, rg, rfl, LA, ok, q⟩ := h
  refine ⟨_, pss_cons (ps_asg (pe_tup (pa_cons (pe_ix ix_tup (pv 0) pe_int (fun _ _ => rfl)) (pa_cons (pe_callB call_len_seq rfl T.n_len PySem.boot_len (pa_cons (pe_ix ix_tup (pv 0) pe_int (fun _ _ => rfl)) pa_nil)) (pa_cons (pe_kn (kn_Lheld T) hr (pa_cons (pv 0) pa_nil)) (pa_cons (pe_lst pa_nil) pa_nil)))))
      (pg_tup (by rfl) (pgs_cons (pg_name (i := 1) sc_Lready.nd rfl (.inl rfl)) (pgs_cons (pg_name (i := 2) sc_Lready.nd rfl (.inl rfl)) (pgs_cons (pg_name (i := 3) sc_Lready.nd rfl (.inl rfl)) (pgs_cons (pg_name (i := 4) sc_Lready.nd rfl (.inl rfl)) pgs_nil))))))
    (pss_cons (ps_for PassesOwn.never rfl (pi_range1 rfl T.n_range (pa_cons (pv 2) pa_nil)) (pg_name (i := 5) sc_Lready.nd rfl (.inl rfl))
      (pss_cons (ps_par (by rfl) sc_Lready.nd (i := 6) (j := 7) rfl rfl (by decide) rfl rfl (pa_cons (pe_ix ix_tup (pv 1) (pe_op op_sub (pv 5) pe_int) (fun _ _ => rfl)) (pa_cons (pe_ix ix_tup (pv 1) (pe_op op_sub (pe_op op_add (pv 5) pe_int) (pv 2)) (fun _ _ => rfl)) pa_nil)) (by rfl))
      (pss_one (ps_if (PW.pt (pw_and (pt_cmpR op_notIn_seq (pv 5) (pv 3) rfl) (pw_and (pt_cmpR op_eq (pv 6) (pv 7) (nomark _)) (pw_and1 (pt_cmpR op_ne (pv 6) (pe_ix ix_tup (pv 1) (pv 5) (fun _ _ => rfl)) (nomark _))))))
        (pss_one (ps_expr (pe_bm PySem.F.plainAttrs_list PySem.F.slot_list_append PySem.F.type_list_append mt_append (pv 4) (pa_cons (pv 5) pa_nil)))) pss_nil))))
    (pss_one (ps_ret (pv 4)))), ?_⟩
  obtain ⟨c, h, hl, hc, hh⟩ := id LA
  have n11 := ok.n11
  refine ⟨_, rfl, l, _, _, _, rfl, rfl, SqT.of hl, atI_nat (j := 0) rfl, _, rfl, l, _, _, _, rfl, rfl, SqT.of hl, atI_nat (j := 0) rfl, c, _, rfl, .inr (SqT.of hc), _, rfl, l, cs, hd, rg, rfl, LA, ok, fun H1 p s1 hp => ?_⟩
  rw [nv_length]
  refine ⟨Nat.zero_le _, fun fo nf => ⟨(by show 4 ≤ sizeLine; decide), fun t nt => ?_⟩⟩
  have s2 := same_new nf (.lst [])
  have s3 := same_new nt (.tup [.ref c, .int ((cs.length : Nat) : Int), .ref p, .ref fo])
  refine ⟨t, _, rfl, SqT.of upd_same, rfl, _, _, rfl, _, _, rfl, _, _, rfl, _, _, rfl, rfl, ?_⟩
  refine ⟨_, rfl, ((cs.length : Nat) : Int), rfl, by omega, by omega, ?_⟩
  have en : (((cs.length : Nat) : Int)).toNat = cs.length := rfl
  rw [en]
  refine for_range (lo := 0) (n := cs.length) (fun i σ' H' => Same H1 H' ∧ ∃ x5 x6 x7, σ' = [some (.ref l), some (.ref c), some (.int ((cs.length : Nat) : Int)), some (.ref p), some (.ref fo), x5, x6, x7] ∧ H' fo = some (.lst (nv ((List.range i).filter fun k => !hld cs.length hd rg k && flk cs.length cs k))))
    ⟨s2.trans s3, none, none, none, rfl, s3 _ _ upd_same⟩ ?_ ?_
  · rintro i σ' H' hi ⟨s4, x5, x6, x7, rfl, hf⟩
    have ei : (0 : Int) + ((i : Nat) : Int) = ((i : Nat) : Int) := by omega
    rw [ei]
    have hc' := s4 _ _ (s1 _ _ hc)
    refine ⟨_, rfl, _, rfl, _, _, rfl, rfl, c, _, _, _, rfl, rfl, SqT.of hc', at_left hi, _, rfl, _, rfl, _, _, rfl, rfl, _, rfl, _, _, rfl, rfl, c, _, _, _, rfl, rfl, SqT.of hc', at_right hi, _, _, rfl, ?_⟩
    refine ⟨_, rfl, _, rfl, p, _, rfl, .inl (SqL.of (s4 _ _ hp)), rfl, nv_flat _, ?_⟩
    have eh : decide (i ∈ heldL cs.length hd rg) = hld cs.length hd rg i := by
      rw [Bool.eq_iff_iff, decide_eq_true_eq, mem_heldL]
      exact ⟨fun h => h.2, fun h => ⟨hi, h⟩⟩
    have en2 : (if true = true then !inV (V.int (i : Int)) (nv (heldL cs.length hd rg)) else inV (V.int (i : Int)) (nv (heldL cs.length hd rg))) = !hld cs.length hd rg i := by
      rw [if_pos rfl, nv_in, eh]
    refine ⟨!hld cs.length hd rg i, congrArg V.bl en2, ?_⟩
    have no : (!hld cs.length hd rg i && flk cs.length cs i) = false → ∀ x6 x7 : Option V, (Same H1 H' ∧ ∃ y5 y6 y7, [some (V.ref l), some (V.ref c), some (V.int ((cs.length : Nat) : Int)), some (V.ref p), some (V.ref fo), some (V.int ((i : Nat) : Int)), x6, x7] = [some (V.ref l), some (V.ref c), some (V.int ((cs.length : Nat) : Int)), some (V.ref p), some (V.ref fo), y5, y6, y7] ∧ H' fo = some (.lst (nv ((List.range (i + 1)).filter fun k => !hld cs.length hd rg k && flk cs.length cs k)))) := fun e x6 x7 => by
      refine ⟨s4, _, _, _, rfl, ?_⟩
      rw [List.range_succ, List.filter_append]
      have : List.filter (fun k => !hld cs.length hd rg k && flk cs.length cs k) [i] = [] := by
        rw [List.filter_cons_of_neg (by show ¬ (!hld cs.length hd rg i && flk cs.length cs i) = true; rw [e]; decide)]
        rfl
      rw [this, List.append_nil]
      exact hf
    cases e1 : hld cs.length hd rg i with
    | true => exact iteF (iteF (no (by rw [e1]; rfl) _ _))
    | false =>
      refine iteT ⟨_, rfl, _, rfl, rfl, _, congrArg V.bl (dec_int _ _), ?_⟩
      by_cases e2 : cs.getD (lft cs.length i) 0 = cs.getD (rgt cs.length i) 0
      · rw [decide_eq_true e2]
        refine iteT ⟨_, rfl, _, rfl, _, rfl, c, _, _, _, rfl, rfl, SqT.of hc', nv_at hi, rfl, _, congrArg V.bl (congrArg Bool.not (dec_int _ _)), ?_⟩
        by_cases e3 : cs.getD (lft cs.length i) 0 = cs.getD i 0
        · rw [decide_eq_true e3]
          refine iteF (no ?_ _ _)
          unfold flk
          rw [← e2, decide_eq_true e3, Bool.not_true, Bool.and_false, Bool.and_false]
        · rw [decide_eq_false e3]
          refine iteT ⟨_, rfl, .inl ⟨rfl, _, .inl (.inl hf)⟩, _, rfl, fo, _, _, rfl, rfl, hf, ?_, ?_⟩
          · rw [nv_length]
            have := List.length_filter_le (fun k => !hld cs.length hd rg k && flk cs.length cs k) (List.range i)
            rw [List.length_range] at this
            exact len_le (by omega)
          · refine ⟨same_mut s4 nf _, _, _, _, rfl, ?_⟩
            refine upd_same.trans (congrArg (fun xs => some (HO.lst xs)) ?_)
            rw [List.range_succ, List.filter_append]
            have : List.filter (fun k => !hld cs.length hd rg k && flk cs.length cs k) [i] = [i] := by
              rw [List.filter_cons_of_pos (by
                show (!hld cs.length hd rg i && flk cs.length cs i) = true
                unfold flk
                rw [e1, ← e2, decide_eq_false e3, decide_eq_true rfl]
                rfl)]
              rfl
            rw [this]
            exact nv_snoc _ _
      · rw [decide_eq_false e2]
        refine iteF (iteF (no ?_ _ _))
        unfold flk
        rw [decide_eq_false e2, Bool.false_and, Bool.and_false]
  · rintro σ' H' ⟨s4, x5, x6, x7, rfl, hf⟩
    exact ⟨_, rfl, q _ fo (s1.trans s4) hf⟩
end
end FT
set_option Elab.async false
set_option linter.all false
set_option maxRecDepth 100000
set_option maxHeartbeats 4000000
namespace FT
open PySem PySem.Spec PyProof.Rows L2
section
variable {P : Program} {w : World} {K : PySem.W.Frag} {mg : Str → Option Value} {base : Heap}
/-! ### _law_value -/
/-- the value of a row of colours -/
def cv (n : Nat) (hd : List Nat) (rg : Bool) : List Nat → Bool → Nat := fun ks b => tv n (rdy n hd rg ks) b
def cok (n : Nat) : List Nat → Prop := fun ks => ks.length = n ∧ ∀ x ∈ ks, x ≤ 2
theorem cok_code {n : Nat} (h11 : n ≤ 11) (ks : List Nat) (h : cok n ks) : ks.length ≤ 11 ∧ ∀ x ∈ ks, x + 1 < 4 := ⟨by rw [h.1]; exact h11, fun x hx => by have := h.2 x hx; omega⟩
theorem set_cat {cs : List Nat} {k x : Nat} (h : k < cs.length) : cs.take k ++ [x] ++ cs.drop (k + 1) = cs.set k x := by
  rw [List.set_eq_take_append_cons_drop, if_pos h, List.append_assoc]
  rfl
theorem cok_set {n : Nat} {cs : List Nat} {k j : Nat} (h : cok n cs) (hj : j < n) : cok n (cs.set k (cs.getD j 0)) := by
  refine ⟨by rw [List.length_set]; exact h.1, fun x hx => ?_⟩
  rcases List.mem_or_eq_of_mem_set hx with hx | rfl
  · exact h.2 x hx
  · have jl : j < cs.length := by rw [h.1]; exact hj
    refine h.2 _ ?_
    rw [List.getD_eq_getElem?_getD, List.getElem?_eq_getElem jl]
    exact List.getElem_mem jl
/-- a cell that is ready has a cell on either side -/
theorem rdy_three {n : Nat} {hd : List Nat} {rg : Bool} {cs : List Nat} {k : Nat} (h3 : rg = true → 3 ≤ n) (hk : k ∈ rdy n hd rg cs) : 3 ≤ n := by
  cases rg with
  | true => exact h3 rfl
  | false =>
    obtain ⟨k1, k2, _⟩ := rdy_mem.mp hk
    unfold hld at k2
    rw [Bool.or_eq_false_iff] at k2
    have k3 : (decide (k = 0) || decide (k = n - 1)) = false := k2.2
    rw [Bool.or_eq_false_iff, decide_eq_false_iff_not, decide_eq_false_iff_not] at k3
    omega
theorem LnAt.tup {H H' : Hp} {l : Addr} {cs hd : List Nat} {rg : Bool} (h : LnAt H l cs hd rg) (e : ∀ a ys, H a = some (.tup ys) → H' a = some (.tup ys)) : LnAt H' l cs hd rg := by
  obtain ⟨c, g, h1, h2, h3⟩ := h
  exact ⟨c, g, e _ _ h1, e _ _ h2, e _ _ h3⟩
def toldC (n : Nat) (R : List Nat) (S : List Nat) (b : Bool) : List Nat := S.map fun k => 1 + tv n (rm n R k) (!b)
theorem eqv_nilL (L : List Nat) : PyData.eqv (.list ((zs L).map PyData.int)) (.list []) = decide (L = []) := by
  cases L with
  | nil => simp only [PyData.eqv, zs, List.map_nil, PyData.eqvAll, decide_true]
  | cons x r => simp [PyData.eqv, zs, PyData.eqvAll]
def spValL (P : Program) (w : World) (m : Nat) : Sp := fun vs H Q _ => ∃ (l c d : Addr) (b : Bool) (cs0 cs hd : List Nat) (rg : Bool) (xs : List MX), vs = [.ref l, .ref c, .bl b, .ref d] ∧ LnAt H l cs0 hd rg ∧ Lok cs0 hd rg ∧ H c = some (.tup (nv cs)) ∧ cok cs0.length cs ∧
  (rdy cs0.length hd rg cs).length < m ∧ Mem P w (cv cs0.length hd rg) (cok cs0.length) H d xs ∧ ∀ H' xs', SameBut d H H' → Mem P w (cv cs0.length hd rg) (cok cs0.length) H' d xs' → hasK xs' (nk cs b) = true → Q (.int ((cv cs0.length hd rg cs b : Nat) : Int)) H'
theorem valL_none {f : Addr} {fd : FuncData} {k : Nat} : FnOk P w K mg base CX0 k f fd ps_Lvalue (spValL P w 0) := by
  have no : ∀ vs H Q E, ¬ spValL P w 0 vs H Q E := fun vs H Q E h => by
    obtain ⟨l, c, d, b, cs0, cs, hd, rg, xs, _, _, _, _, _, h, _⟩ := h
    omega
  exact ⟨fun vs H Q E h => absurd h (no vs H Q E), fun A outer s H args us vs Q E _ _ _ _ h => absurd h (no vs H Q E)⟩
theorem kn_valL_step (T : Tp K mg) (m : Nat) (ih : Kn P w K mg base (m + 2) "_law_value" ps_Lvalue (spValL P w m)) : Kn P w K mg base (m + 3) "_law_value" ps_Lvalue (spValL P w (m + 1)) := by
  refine kn_of T.d_Lvalue sc_Lvalue (fun vs H Q E h => ?_) (fun f cdv A outer s H vs Q E hr h => ?_)
  · obtain ⟨l, c, d, b, cs0, cs, hd, rg, xs, rfl, _⟩ := h
    rfl
  obtain ⟨l, c, d, b, cs0, cs, hd, rg, xs, rfl, LA, ok0, hc, ck, hm, mem, q⟩ := h
  refine ⟨_, pss_cons (ps_set (i := 4) sc_Lvalue.nd rfl (.inl rfl) (pe_tup (pa_cons (pv 1) (pa_cons (pv 2) pa_nil))))
    (pss_cons (ps_if (pt_cmp (pc_mnotin (u9 hr) (pv 4) (pv 3)))
      (pss_cons (ps_set (i := 5) sc_Lvalue.nd rfl (.inl rfl) (pe_lst pa_nil))
      (pss_cons (ps_for PassesOwn.never rfl (pi_list (pe_kn (kn_Lready T) hr (pa_cons (pe_tup (pa_cons (pv 1) (pa_cons (pe_ix ix_tup (pv 0) pe_int (fun _ _ => rfl)) (pa_cons (pe_ix ix_tup (pv 0) pe_int (fun _ _ => rfl)) pa_nil)))) pa_nil) (by omega))) (pg_name (i := 6) sc_Lvalue.nd rfl (.inl rfl))
        (pss_one (ps_expr (pe_bm PySem.F.plainAttrs_list PySem.F.slot_list_append PySem.F.type_list_append mt_append (pv 5) (pa_cons (pe_op op_add pe_int (pe_kn ih hr (pa_cons (pv 0) (pa_cons
          (pe_op (r := rCatA K) op_catA (pe_op (r := rCatA K) op_catA (pe_slice (r := rSlA K) sl_tupA (pv 1) po_none (po_some (pv 6))) (pe_tup (pa_cons (pe_ix ix_tup (pv 1) (pe_op op_sub (pv 6) pe_int) (fun _ _ => rfl)) pa_nil))) (pe_slice (r := rSlA K) sl_tupA (pv 1) (po_some (pe_op op_add (pv 6) pe_int)) po_none))
          (pa_cons (pe_not (pv 2)) (pa_cons (pv 3) pa_nil)))) (Nat.le_refl _))) pa_nil)))))
      (pss_one (ps_mput (u9 hr) (pv 3) (pv 4) (pe_ifExp (pt_cmpR (op_eqD hr.units) (pv 5) (pe_lst pa_nil) (nomark _)) pe_int (pe_ifExp (pt_val (pv 2)) (pe_callB (cr_max rfl) rfl T.n_max (by decide +kernel) (pa_cons (pv 5) pa_nil)) (pe_callB (cr_min rfl) rfl T.n_min (by decide +kernel) (pa_cons (pv 5) pa_nil)))) rfl)))) pss_nil)
    (pss_one (ps_ret (pe_mget (u9 hr) (pv 3) (pv 4) (fun _ _ => rfl))))), ?_⟩
  have n1 := ok0.n1
  have n11 := ok0.n11
  have r30 := ok0.r3
  have hs0 := ok0.hs
  generalize hN : cs0.length = N at *
  refine ⟨_, rfl, _, rfl, (by show 2 ≤ sizeLine; decide), fun T' nT => ?_⟩
  have s1 := same_new nT (.tup [.ref c, .bl b])
  have mem1 := mem.keep s1
  have key1 : KeyAt (upd H T' (.tup [.ref c, .bl b])) T' cs b := ⟨c, upd_same, s1 _ _ hc⟩
  refine ⟨_, rfl, _, rfl, d, T', xs, cv N hd rg, cok N, cs, b, rfl, rfl, mem1, key1, !hasK xs (nk cs b), rfl, ?_⟩
  cases hk : hasK xs (nk cs b) with
  | true => exact iteF ⟨_, rfl, _, rfl, d, T', xs, cv N hd rg, cok N, cs, b, rfl, rfl, mem1, key1, hk, q _ xs (Same.but s1) mem1 hk⟩
  | false =>
    obtain ⟨c0, h, hl, hc0, hh⟩ := id LA
    refine iteT ⟨Nat.zero_le _, fun tl ntl => ?_⟩
    have s2 := s1.trans (same_new ntl (.lst []))
    refine ⟨_, rfl, _, rfl, l, _, _, _, rfl, rfl, SqT.of (s2 _ _ hl), atI_nat (j := 1) rfl, _, rfl, l, _, _, _, rfl, rfl, SqT.of (s2 _ _ hl), atI_nat (j := 2) rfl, (by show 3 ≤ sizeLine; decide), fun u nu => ?_⟩
    have s3 := same_new nu (.tup [.ref c, .ref h, .bl rg])
    have s23 := s2.trans s3
    have LB : LnAt (upd (upd (upd H T' (.tup [.ref c, .bl b])) tl (.lst [])) u (.tup [.ref c, .ref h, .bl rg])) u cs hd rg := ⟨c, h, upd_same, s23 _ _ hc, s23 _ _ hh⟩
    have hcl := ck.1
    have okB : Lok cs hd rg := ⟨by rw [hcl]; exact n1, by rw [hcl]; exact n11, fun e => by rw [hcl]; exact r30 e, fun x hx => by have := ck.2 x hx; omega, by rw [hcl]; exact hs0⟩
    refine ⟨u, cs, hd, rg, rfl, LB, okB, fun H2 z s4 hz => ?_⟩
    rw [hcl] at hz
    have sub := rdy_sub N hd rg cs
    have three : ∀ k ∈ rdy N hd rg cs, 3 ≤ N := fun k hk => rdy_three r30 hk
    have inl : ∀ k ∈ rdy N hd rg cs, k < N := fun k hk => sub.lt hk
    have rl := sub_len sub
    have turn : ∀ k ∈ rdy N hd rg cs, rdy N hd rg (cs.set k (cs.getD (lft N k) 0)) = rm N (rdy N hd rg cs) k := fun k hk => rdy_turn (three k hk) hcl hk
    have cve : cv N hd rg cs b = tv N (rdy N hd rg cs) b := rfl
    generalize hR : rdy N hd rg cs = R at *
    have sA := s23.trans s4
    have mem2 := mem.keep sA
    have key2 : KeyAt H2 T' cs b := key1.keep fun a ys e => s4 _ _ (s3 _ _ (same_new ntl (.lst []) _ _ e))
    have htl := s4 _ _ (s3 _ _ (upd_same (H := upd H T' (.tup [.ref c, .bl b])) (a := tl) (o := .lst [])))
    have td : ∀ {a : Addr} {ys : List V}, H2 a = some (.tup ys) → a ≠ d := fun h => ne_of h mem2.at' (fun z => nomatch z)
    have zd : z ≠ d := ne_of hz mem2.at' (fun z => nomatch z)
    have tld : tl ≠ d := ne_of htl mem2.at' (fun z => nomatch z)
    have ntl0 : H tl = none := none_back s1 ntl
    have ztl : R ≠ [] → z ≠ tl := fun hne e => by
      rw [e, htl] at hz
      injection hz with hz
      injection hz with hz
      refine hne (List.length_eq_zero_iff.mp ?_)
      have := congrArg List.length hz
      rw [nv_length] at this
      exact this.symm
    refine ⟨z, rfl, ⟨_, SqL.of hz⟩, ?_⟩
    refine for_list (K := K) (a := z) (xs := nv R) (fun i σ' H' => ∃ xs' x6, SameBut d H H' ∧ (∀ a ys, H2 a = some (.tup ys) → H' a = some (.tup ys)) ∧ H' z = some (.lst (nv R)) ∧ Mem P w (cv N hd rg) (cok N) H' d xs' ∧ σ' = [some (.ref l), some (.ref c), some (.bl b), some (.ref d), some (.ref T'), some (.ref tl), x6] ∧ H' tl = some (.lst (nv (toldC N R (R.take i) b))))
      ⟨xs, none, Same.but sA, fun _ _ e => e, hz, mem2, rfl, htl⟩ (fun i σ' H' _ pp => by obtain ⟨_, _, _, _, h, _⟩ := pp; exact SqL.of h) ?_ ?_
    · rintro i x σ' H' hx ⟨xs', x6, sb, tp, hz', m', rfl, ht⟩
      have hi : i < R.length := by
        have := (List.getElem?_eq_some_iff.mp hx).1
        rw [nv_length] at this
        exact this
      cases (nv_get hi).symm.trans hx
      have kR : R.getD i 0 ∈ R := by
        rw [List.getD_eq_getElem?_getD, List.getElem?_eq_getElem hi]
        exact List.getElem_mem hi
      have etk := take_next hi
      generalize hk' : R.getD i 0 = k at *
      have kn := inl k kR
      have kc : k < cs.length := by rw [hcl]; exact kn
      have hc' := tp _ _ (sA _ _ hc)
      refine ⟨_, rfl, .inl ⟨rfl, _, .inl (.inl ht)⟩, _, rfl, _, rfl, _, rfl, _, rfl, ?_⟩
      refine sl_to hc' fun r1 H3 t1 hr1 => ?_
      rw [cut_head (Nat.le_of_lt kc)] at hr1
      refine ⟨_, rfl, _, rfl, _, _, rfl, rfl, c, _, _, _, rfl, rfl, SqT.of (t1 _ _ hc'), at_left kc, (by show 1 ≤ sizeLine; decide), fun r2 nr2 => ?_⟩
      have t2 := same_new nr2 (.tup [.int ((cs.getD (lft cs.length k) 0 : Nat) : Int)])
      refine cat_to (t2 _ _ hr1) upd_same (by rw [nv_length, List.length_take]; show _ + 1 ≤ 1000; omega) fun r3 H4 t3 hr3 => ?_
      refine ⟨_, rfl, _, rfl, _, _, rfl, rfl, _, rfl, ?_⟩
      refine np_of (sl_to (t3 _ _ (t2 _ _ (t1 _ _ hc'))) fun r4 H5 t4 hr4 => ?_)
      have ek1 : ((k : Nat) : Int) + 1 = ((k + 1 : Nat) : Int) := by omega
      rw [ek1, cut_tail kc] at hr4
      refine cat_to (t4 _ _ hr3) hr4 (by rw [List.length_append, nv_length, nv_length, List.length_take, List.length_drop]; show _ + 1 + _ ≤ 1000; omega) fun r5 H6 t5 hr5 => ?_
      have e5 : nv (cs.take k) ++ [V.int ((cs.getD (lft cs.length k) 0 : Nat) : Int)] ++ nv (cs.drop (k + 1)) = nv (cs.set k (cs.getD (lft N k) 0)) := by
        rw [nv_snoc, ← nv_app, set_cat kc, hcl]
      rw [e5] at hr5
      have tA := (((t1.trans t2).trans t3).trans t4).trans t5
      have ckS : cok N (cs.set k (cs.getD (lft N k) 0)) := cok_set ck (lft_lt kn)
      have less : (rm N R k).length < R.length := rm_len kR
      have eS : rdy N hd rg (cs.set k (cs.getD (lft N k) 0)) = rm N R k := turn k kR
      have m6 := m'.keep tA
      refine ⟨_, rfl, b, rfl, _, rfl, l, r5, d, !b, cs0, cs.set k (cs.getD (lft N k) 0), hd, rg, xs', rfl, (LA.same sA).tup fun a ys e => tA _ _ (tp _ _ e), ok0, hr5, by rw [hN]; exact ckS, by rw [hN, eS]; omega, by rw [hN]; exact m6, fun H7 xs7 sb7 m7 _ => ?_⟩
      have ht7 := sb7 _ _ tld (tA _ _ ht)
      rw [hN] at m7
      refine ⟨_, _, rfl, rfl, tl, _, _, rfl, rfl, ht7, ?_, xs7, _, but_mut ((sb.trans (Same.but tA)).trans sb7) ntl0 _, fun a ys e => ?_, ?_, m7.app ht7, rfl, ?_⟩
      · rw [nv_length]
        unfold toldC
        rw [List.length_map]
        have : (R.take i).length ≤ i := List.length_take_le _ _
        exact len_le (by omega)
      · rw [upd_ne (ne_of e htl (fun z => nomatch z))]
        exact sb7 _ _ (td e) (tA _ _ (tp _ _ e))
      · rw [upd_ne (ztl (List.ne_nil_of_mem kR))]
        exact sb7 _ _ zd (tA _ _ hz')
      · refine upd_same.trans (congrArg (fun xs => some (HO.lst xs)) ?_)
        have e : toldC N R (R.take (i + 1)) b = toldC N R (R.take i) b ++ [1 + tv N (rm N R k) (!b)] := by
          unfold toldC
          rw [etk, List.map_append]
          rfl
        have ev : cv N hd rg (cs.set k (cs.getD (lft N k) 0)) (!b) = tv N (rm N R k) (!b) := by
          unfold cv
          rw [eS]
        rw [e, ← nv_snoc, hN, ev]
        rfl
    · rintro σ' H' ⟨xs', x6, sb, tp, hz', m', rfl, ht⟩
      have e1 : R.take (nv R).length = R := by rw [nv_length, List.take_length]
      rw [e1] at ht
      have key' : KeyAt H' T' cs b := key2.keep tp
      have few : xs'.length < sizeLine := by
        have := mem_few (B := 4) (M := 11) m' (cok_code n11) (by decide)
        rw [PySem.sizeLine_eq]
        have e : 4 ^ 11 = 4194304 := by decide
        omega
      -- from the value on
      have fin : ∀ {v : Int}, v = ((cv N hd rg cs b : Nat) : Int) → ∀ H3 : Hp, (∀ a o, H' a = some o → H3 a = some o) → ∀ xs2, Mem P w (cv N hd rg) (cok N) (upd H3 d (MemO P w d xs2)) d xs2 → hasK xs2 (nk cs b) = true →
          (SameBut d H (upd H3 d (MemO P w d xs2)) ∧ KeyAt (upd H3 d (MemO P w d xs2)) T' cs b) := fun {v} ev H3 e3 xs2 m2 hk2 => by
        refine ⟨(sb.trans (Same.but e3)).trans (but_upd (d := d) (H := H3) (MemO P w d xs2)), key'.keep fun a ys e => ?_⟩
        rw [upd_ne (ne_of e m'.at' (fun z => nomatch z))]
        exact e3 _ _ e
      refine ⟨_, rfl, Nat.zero_le _, fun z0 nz0 => ?_⟩
      have s5 : Same H' (upd H' z0 (.lst [])) := same_new nz0 _
      refine ⟨.list ((zs (toldC N R R b)).map PyData.int), .list [], dp_lst (ns := zs (toldC N R R b)) (s5 _ _ ht), .lst (SqL.of upd_same) .nil, shaped_ints _, rfl, ?_⟩
      refine ⟨decide (toldC N R R b = []), congrArg V.bl (eqv_nilL _), ?_⟩
      have m3 := m'.keep s5
      have key3 := key'.keep fun a ys e => s5 _ _ e
      have tlen : (toldC N R R b).length = R.length := by unfold toldC; rw [List.length_map]
      by_cases hne : toldC N R R b = []
      · rw [decide_eq_true hne]
        have R0 : R = [] := List.length_eq_zero_iff.mp (by rw [← tlen, hne]; rfl)
        have v0 : (0 : Int) = ((cv N hd rg cs b : Nat) : Int) := by
          rw [cve, R0, tv_nil n1 n11]
          rfl
        refine iteT ⟨_, rfl, _, rfl, d, T', xs', cv N hd rg, cok N, cs, b, rfl, rfl, congrArg V.int v0, m3, key3, ck, few, fun xs2 m2 hk2 => ?_⟩
        obtain ⟨f1, f2⟩ := fin v0 _ s5 xs2 m2 hk2
        exact ⟨_, rfl, _, rfl, d, T', xs2, cv N hd rg, cok N, cs, b, rfl, rfl, m2, f2, hk2, q _ xs2 f1 m2 hk2⟩
      · rw [decide_eq_false hne]
        have Rne : R ≠ [] := fun e => hne (by rw [e]; rfl)
        have val : tv N R b = optv b (toldC N R R b) := tv_turn n1 n11 (by rw [← hR]; exact rdy_sub _ _ _ _) Rne b
        have pos : 0 < (zs (toldC N R R b)).length := by
          unfold zs
          rw [List.length_map, tlen]
          exact List.length_pos_iff.mpr Rne
        refine iteF ⟨_, rfl, b, rfl, ?_⟩
        have hD := s5 _ _ ht
        cases b with
        | true =>
          refine iteT ⟨_, rfl, tl, zs (toldC N R R true), rfl, SqL.of hD, pos, fun v hv hb => ?_⟩
          have v0 : v = ((cv N hd rg cs true : Nat) : Int) := (max_of hv hb).trans (by rw [cve, val])
          refine ⟨_, rfl, _, rfl, d, T', xs', cv N hd rg, cok N, cs, true, rfl, rfl, congrArg V.int v0, m3, key3, ck, few, fun xs2 m2 hk2 => ?_⟩
          obtain ⟨f1, f2⟩ := fin v0 _ s5 xs2 m2 hk2
          exact ⟨_, rfl, _, rfl, d, T', xs2, cv N hd rg, cok N, cs, true, rfl, rfl, m2, f2, hk2, q _ xs2 f1 m2 hk2⟩
        | false =>
          refine iteF ⟨_, rfl, tl, zs (toldC N R R false), rfl, SqL.of hD, pos, fun v hv hb => ?_⟩
          have v0 : v = ((cv N hd rg cs false : Nat) : Int) := (min_of hv hb).trans (by rw [cve, val])
          refine ⟨_, rfl, _, rfl, d, T', xs', cv N hd rg, cok N, cs, false, rfl, rfl, congrArg V.int v0, m3, key3, ck, few, fun xs2 m2 hk2 => ?_⟩
          obtain ⟨f1, f2⟩ := fin v0 _ s5 xs2 m2 hk2
          exact ⟨_, rfl, _, rfl, d, T', xs2, cv N hd rg, cok N, cs, false, rfl, rfl, m2, f2, hk2, q _ xs2 f1 m2 hk2⟩
theorem kn_valL (T : Tp K mg) : ∀ m : Nat, Kn P w K mg base (m + 2) "_law_value" ps_Lvalue (spValL P w m)
  | 0 => by
    obtain ⟨f, fd, F, b, mm⟩ := T.d_Lvalue
    exact ⟨f, fd, valL_none, b, F.kp, mm⟩
  | m + 1 => kn_valL_step T m (kn_valL T m)
end
end FT
set_option Elab.async false
set_option linter.all false
set_option maxRecDepth 100000
set_option maxHeartbeats 4000000
namespace FT
open PySem PySem.Spec PyProof.Rows L2
section
variable {P : Program} {w : World} {K : PySem.W.Frag} {mg : Str → Option Value} {base : Heap}
/-! ### _law_taken, _law_pick -/
def rowV (sc : Addr) (i j c : Nat) : List V := [.ref sc, .int ((i : Nat) : Int), .int ((j : Nat) : Int), .int ((c : Nat) : Int)]
/-- the script stands where it did -/
def ScOk (K : PySem.W.Frag) (H : Hp) (sc : Addr) (ns : List Int) : Option HO → Prop
  | some u => H sc = some u ∧ (u = .lst (ns.map V.int) ∨ ∃ o, u = .frz o (.lst (ns.map V.int)))
  | none => ∃ (o : Obj) (its : Array Value) (n : Nat), K.lookup sc = some o ∧ o.cls = .type "list" ∧ o.dict = none ∧ o.data = .seq its n ∧ its.size ≤ sizeLine ∧ Vals (ns.map V.int) its.toList
theorem ScOk.sq {H : Hp} {sc : Addr} {ns : List Int} {ou : Option HO} (h : ScOk K H sc ns ou) : SqL K H sc (ns.map V.int) := by
  cases ou with
  | none => exact .inr h
  | some u =>
    obtain ⟨h1, h2⟩ := h
    rcases h2 with rfl | ⟨o, rfl⟩
    · exact .inl (.inl h1)
    · exact .inl (.inr ⟨o, h1⟩)
theorem scOk_of {H : Hp} {sc : Addr} {ns : List Int} (h : SqL K H sc (ns.map V.int)) : ∃ ou, ScOk K H sc ns ou := by
  rcases h with (h | ⟨o, h⟩) | h
  · exact ⟨some _, h, .inl rfl⟩
  · exact ⟨some _, h, .inr ⟨o, rfl⟩⟩
  · exact ⟨none, h⟩
theorem ScOk.same {H H' : Hp} {sc : Addr} {ns : List Int} {ou : Option HO} (h : ScOk K H sc ns ou) (e : Same H H') : ScOk K H' sc ns ou := by
  cases ou with
  | none => exact h
  | some u => exact ⟨e _ _ h.1, h.2⟩
theorem ScOk.but {H H' : Hp} {r sc a : Addr} {l : List V} {ns : List Int} {ou : Option HO} (h : ScOk K H sc ns ou) (hr : H r = some (.lst (.ref a :: l))) (e : SameBut r H H') : ScOk K H' sc ns ou := by
  cases ou with
  | none => exact h
  | some u =>
    refine ⟨e _ _ (fun z => ?_) h.1, h.2⟩
    have h1 := h.1
    rw [z, hr] at h1
    injection h1 with h1
    rcases h.2 with e2 | ⟨o, e2⟩
    · rw [e2] at h1
      injection h1 with h1
      cases ns with
      | nil => cases h1
      | cons x r' =>
        rw [List.map_cons] at h1
        injection h1 with h1 _
        cases h1
    · rw [e2] at h1
      cases h1
theorem ScOk.own {H0 H' : Hp} {p sc : Addr} {ns : List Int} {ou : Option HO} (h0 : ScOk K H0 sc ns ou) (n : H0 p = none) (h : ScOk K H' sc ns ou) (o : HO) : ScOk K (upd H' p o) sc ns ou := by
  cases ou with
  | none => exact h
  | some u => exact ⟨by rw [upd_ne (ne_of_none h0.1 n)]; exact h.1, h.2⟩
/-- the row of what is taken from the script -/
def RowAt (K : PySem.W.Frag) (H : Hp) (r sc : Addr) (ns : List Int) (ou : Option HO) : Prop := ∃ i j c : Nat, H r = some (.lst (rowV sc i j c)) ∧ ScOk K H sc ns ou ∧ j < 2147483647
theorem RowAt.same {H H' : Hp} {r sc : Addr} {ns : List Int} {ou : Option HO} (h : RowAt K H r sc ns ou) (e : Same H H') : RowAt K H' r sc ns ou := by
  obtain ⟨i, j, c, h1, h2, h3⟩ := h
  exact ⟨i, j, c, e _ _ h1, h2.same e, h3⟩
theorem RowAt.own {H0 H' : Hp} {p r sc : Addr} {ns : List Int} {ou : Option HO} (h0 : RowAt K H0 r sc ns ou) (n : H0 p = none) (h : RowAt K H' r sc ns ou) (o : HO) : RowAt K (upd H' p o) r sc ns ou := by
  obtain ⟨i0, j0, c0, a1, a2, a3⟩ := h0
  obtain ⟨i, j, c, h1, h2, h3⟩ := h
  exact ⟨i, j, c, by rw [upd_ne (ne_of_none a1 n)]; exact h1, a2.own n h2 o, h3⟩
def spTaken (K : PySem.W.Frag) : Sp := fun vs H Q _ => ∃ (r sc : Addr) (ns : List Int) (ou : Option HO) (n : Nat), vs = [.ref r, .int ((n : Nat) : Int)] ∧ RowAt K H r sc ns ou ∧ 1 ≤ n ∧ n ≤ 1000 ∧ ∀ H' (v : Nat), v < n → SameBut r H H' → RowAt K H' r sc ns ou → Q (.int ((v : Nat) : Int)) H'
theorem mod_nat (x : Int) {n : Nat} (h : 1 ≤ n) : ∃ v : Nat, x % ((n : Nat) : Int) = ((v : Nat) : Int) ∧ v < n := by
  have h1 : 0 ≤ x % ((n : Nat) : Int) := Int.emod_nonneg _ (by omega)
  have h2 : x % ((n : Nat) : Int) < ((n : Nat) : Int) := Int.emod_lt_of_pos _ (by omega)
  exact ⟨(x % ((n : Nat) : Int)).toNat, by omega, by omega⟩
theorem kn_Ltaken (T : Tp K mg) : Kn P w K mg base 1 "_law_taken" ps_Ltaken (spTaken K) := by
  refine kn_of T.d_Ltaken sc_Ltaken (fun vs H Q E h => ?_) (fun f cdv A outer s H vs Q E hr h => ?_)
  · obtain ⟨r, sc, ns, ou, n, rfl, _⟩ := h
    rfl
  obtain ⟨r, sc, ns, ou, n, rfl, ⟨i, j, c, hrw, hsc, hj⟩, n1, n1000, q⟩ := h
  refine ⟨_, pss_cons (ps_if (pt_cmpR op_gt (pe_ix ix_list (pv 0) pe_int (fun _ _ => rfl)) pe_int (nomark _))
      (pss_cons (ps_set (i := 2) sc_Ltaken.nd rfl (.inl rfl) (pe_op op_mod (pe_callTy call_int1 rfl T.n_int (by decide +kernel) (pa_cons (pe_ix ix_list (pv 0) pe_int (fun _ _ => rfl)) pa_nil)) (pv 1)))
      (pss_cons (ps_asg (pe_op op_fdiv (pe_ix ix_list (pv 0) pe_int (fun _ _ => rfl)) (pv 1)) (pg_sub (pv 0) pe_int set_list))
      (pss_one (ps_ret (pv 2))))) pss_nil)
    (pss_cons (ps_asg (pe_op op_add (pe_ix ix_list (pv 0) pe_int (fun _ _ => rfl)) pe_int) (pg_sub (pv 0) pe_int set_list))
    (pss_cons (ps_if (pt_cmpR op_gt (pe_ix ix_list (pv 0) pe_int (fun _ _ => rfl)) (pe_callB call_len_seq rfl T.n_len PySem.boot_len (pa_cons (pe_ix ix_list (pv 0) pe_int (fun _ _ => rfl)) pa_nil)) (nomark _))
      (pss_cons (ps_asg (pe_op op_mod (pe_callTy call_int1 rfl T.n_int (by decide +kernel) (pa_cons (pe_op op_add (pe_op op_mul (pe_ix ix_list (pv 0) pe_int (fun _ _ => rfl)) pe_int) pe_int) pa_nil)) pe_int) (pg_sub (pv 0) pe_int set_list))
      (pss_one (ps_ret (pe_op op_mod (pe_callTy call_int1 rfl T.n_int (by decide +kernel) (pa_cons (pe_op op_fdiv (pe_ix ix_list (pv 0) pe_int (fun _ _ => rfl)) pe_int) pa_nil)) (pv 1))))) pss_nil)
    (pss_cons (ps_set (i := 3) sc_Ltaken.nd rfl (.inl rfl) (pe_ix ix_list (pe_ix ix_list (pv 0) pe_int (fun _ _ => rfl)) (pe_op op_sub (pe_ix ix_list (pv 0) pe_int (fun _ _ => rfl)) pe_int) (fun _ _ => rfl)))
    (pss_cons (ps_asg (pe_op op_mod (pe_callTy call_int1 rfl T.n_int (by decide +kernel) (pa_cons (pe_op op_add (pe_op op_add (pe_op op_mul (pe_ix ix_list (pv 0) pe_int (fun _ _ => rfl)) pe_int) (pv 3)) pe_int) pa_nil)) pe_int) (pg_sub (pv 0) pe_int set_list))
    (pss_cons (ps_if (pt_cmpR op_ge (pv 3) (pe_op op_pow pe_int pe_int) (nomark _)) (pss_one (ps_asg (pe_op op_fdiv (pv 3) (pv 1)) (pg_sub (pv 0) pe_int set_list))) pss_nil)
    (pss_one (ps_ret (pe_op op_mod (pe_callTy call_int1 rfl T.n_int (by decide +kernel) (pa_cons (pv 3) pa_nil)) (pv 1))))))))), ?_⟩
  have npos : (0 : Int) < ((n : Nat) : Int) := by omega
  have ncd : CDiv ((c : Nat) : Int) ((n : Nat) : Int) := ⟨npos, by omega⟩
  have at0 : ∀ i j c : Nat, atI (rowV sc i j c) 0 = some (.ref sc) := fun _ _ _ => rfl
  have at1 : ∀ i j c : Nat, atI (rowV sc i j c) 1 = some (.int ((i : Nat) : Int)) := fun _ _ _ => rfl
  have at2 : ∀ i j c : Nat, atI (rowV sc i j c) 2 = some (.int ((j : Nat) : Int)) := fun _ _ _ => rfl
  have at3 : ∀ i j c : Nat, atI (rowV sc i j c) 3 = some (.int ((c : Nat) : Int)) := fun _ _ _ => rfl
  refine ⟨_, rfl, r, _, _, _, rfl, rfl, SqL.of hrw, at3 i j c, _, _, rfl, rfl, decide (0 < ((c : Nat) : Int)), rfl, ?_⟩
  refine ite2 (fun c0 => ?_) (fun c0 => ?_)
  · have cpos : 0 < c := by have := of_decide_eq_true c0; omega
    obtain ⟨v, ev, lv⟩ := mod_nat ((c : Nat) : Int) n1
    refine ⟨_, rfl, r, _, _, _, rfl, rfl, SqL.of hrw, at3 i j c, .inl ⟨_, rfl, _, rfl, _, _, rfl, rfl, npos, ?_⟩⟩
    refine ⟨_, rfl, r, _, _, _, rfl, rfl, SqL.of hrw, at3 i j c, _, rfl, _, _, rfl, rfl, ncd, ?_⟩
    refine ⟨_, rfl, r, _, _, 3, rfl, rfl, hrw, rfl, ?_⟩
    have ed : ((c : Nat) : Int) / ((n : Nat) : Int) = ((c / n : Nat) : Int) := (Int.natCast_ediv c n).symm
    have e : (rowV sc i j c).set 3 (.int (((c : Nat) : Int) / ((n : Nat) : Int))) = rowV sc i j (c / n) := by rw [ed]; rfl
    have fin := q _ v lv (but_upd (d := r) (H := H) (.lst ((rowV sc i j c).set 3 (.int (((c : Nat) : Int) / ((n : Nat) : Int)))))) ⟨i, j, c / n, upd_same.trans (congrArg (fun xs => some (HO.lst xs)) e), hsc.but hrw (but_upd _), hj⟩
    rw [← ev] at fin
    exact ⟨_, rfl, fin⟩
  · have e1 : ((i : Nat) : Int) + 1 = ((i + 1 : Nat) : Int) := by omega
    refine ⟨_, rfl, r, _, _, _, rfl, rfl, SqL.of hrw, at1 i j c, _, _, rfl, rfl, _, rfl, r, _, _, 1, rfl, rfl, hrw, rfl, ?_⟩
    have er : (rowV sc i j c).set 1 (.int (((i : Nat) : Int) + 1)) = rowV sc (i + 1) j c := by rw [e1]; rfl
    have sb1 : SameBut r H (upd H r (.lst ((rowV sc i j c).set 1 (.int (((i : Nat) : Int) + 1))))) := but_upd _
    have hr1 : upd H r (.lst ((rowV sc i j c).set 1 (.int (((i : Nat) : Int) + 1)))) r = some (.lst (rowV sc (i + 1) j c)) := upd_same.trans (congrArg (fun xs => some (HO.lst xs)) er)
    have hs1 := hsc.but hrw sb1
    have jm : ∀ x : Int, ∃ j' : Nat, x % 2147483647 = ((j' : Nat) : Int) ∧ j' < 2147483647 := fun x => by
      have h1 : 0 ≤ x % 2147483647 := Int.emod_nonneg _ (by decide)
      have h2 : x % 2147483647 < 2147483647 := Int.emod_lt_of_pos _ (by decide)
      exact ⟨(x % 2147483647).toNat, by omega, by omega⟩
    have cm : CMul ((j : Nat) : Int) 48271 := .inr ⟨by decide, by decide⟩
    refine ⟨_, rfl, r, _, _, _, rfl, rfl, SqL.of hr1, at1 (i + 1) j c, _, rfl, r, _, _, _, rfl, rfl, SqL.of hr1, at0 (i + 1) j c, sc, _, rfl, .inl hs1.sq, _, _, rfl, rfl, ?_⟩
    rw [List.length_map]
    refine ⟨decide (((ns.length : Nat) : Int) < ((i + 1 : Nat) : Int)), rfl, ?_⟩
    refine ite2 (fun c1 => ?_) (fun c1 => ?_)
    · obtain ⟨j', ej, lj⟩ := jm (((j : Nat) : Int) * 48271 + 11)
      refine ⟨_, rfl, r, _, _, _, rfl, rfl, SqL.of hr1, at2 (i + 1) j c, _, _, rfl, rfl, cm, _, _, rfl, rfl, .inl ⟨_, rfl, _, _, rfl, rfl, (show (0 : Int) < 2147483647 by decide), ?_⟩⟩
      refine ⟨_, rfl, r, _, _, 2, rfl, rfl, hr1, rfl, ?_⟩
      have e2 : (rowV sc (i + 1) j c).set 2 (.int ((((j : Nat) : Int) * 48271 + 11) % 2147483647)) = rowV sc (i + 1) j' c := by rw [ej]; rfl
      have hr2 : upd (upd H r (.lst ((rowV sc i j c).set 1 (.int (((i : Nat) : Int) + 1))))) r (.lst ((rowV sc (i + 1) j c).set 2 (.int ((((j : Nat) : Int) * 48271 + 11) % 2147483647)))) r = some (.lst (rowV sc (i + 1) j' c)) := upd_same.trans (congrArg (fun xs => some (HO.lst xs)) e2)
      have sb2 : SameBut r (upd H r (.lst ((rowV sc i j c).set 1 (.int (((i : Nat) : Int) + 1))))) (upd (upd H r (.lst ((rowV sc i j c).set 1 (.int (((i : Nat) : Int) + 1))))) r (.lst ((rowV sc (i + 1) j c).set 2 (.int ((((j : Nat) : Int) * 48271 + 11) % 2147483647))))) := but_upd _
      obtain ⟨v, ev, lv⟩ := mod_nat (((j' : Nat) : Int) / 7) n1
      refine ⟨_, rfl, r, _, _, _, rfl, rfl, SqL.of hr2, at2 (i + 1) j' c, _, _, rfl, rfl, ⟨by decide, by decide⟩, .inl ⟨_, rfl, _, rfl, _, _, rfl, rfl, npos, ?_⟩⟩
      have fin := q _ v lv (sb1.trans sb2) ⟨i + 1, j', c, hr2, hs1.but hr1 sb2, lj⟩
      rw [← ev] at fin
      exact fin
    · have il : i < ns.length := by have := of_decide_eq_false (Bool.eq_false_iff.mpr c1); omega
      have eb : ((i + 1 : Nat) : Int) - 1 = ((i : Nat) : Int) := by omega
      generalize hx : ns[i] = x at *
      have atx : atI (ns.map V.int) (((i + 1 : Nat) : Int) - 1) = some (.int x) := by
        rw [eb]
        refine atI_nat ?_
        rw [List.getElem?_map, List.getElem?_eq_getElem il, hx]
        rfl
      refine ⟨_, rfl, r, _, _, _, rfl, rfl, SqL.of hr1, at0 (i + 1) j c, _, rfl, r, _, _, _, rfl, rfl, SqL.of hr1, at1 (i + 1) j c, _, _, rfl, rfl, sc, _, _, _, rfl, rfl, hs1.sq, atx, ?_⟩
      obtain ⟨j', ej, lj⟩ := jm (((j : Nat) : Int) * 48271 + x + 11)
      refine ⟨_, rfl, r, _, _, _, rfl, rfl, SqL.of hr1, at2 (i + 1) j c, _, _, rfl, rfl, cm, _, rfl, _, _, rfl, rfl, _, _, rfl, rfl, .inl ⟨_, rfl, _, _, rfl, rfl, (show (0 : Int) < 2147483647 by decide), ?_⟩⟩
      refine ⟨_, rfl, r, _, _, 2, rfl, rfl, hr1, rfl, ?_⟩
      have e2 : (rowV sc (i + 1) j c).set 2 (.int ((((j : Nat) : Int) * 48271 + x + 11) % 2147483647)) = rowV sc (i + 1) j' c := by rw [ej]; rfl
      have hr2 : upd (upd H r (.lst ((rowV sc i j c).set 1 (.int (((i : Nat) : Int) + 1))))) r (.lst ((rowV sc (i + 1) j c).set 2 (.int ((((j : Nat) : Int) * 48271 + x + 11) % 2147483647)))) r = some (.lst (rowV sc (i + 1) j' c)) := upd_same.trans (congrArg (fun xs => some (HO.lst xs)) e2)
      have sb2 : SameBut r (upd H r (.lst ((rowV sc i j c).set 1 (.int (((i : Nat) : Int) + 1))))) (upd (upd H r (.lst ((rowV sc i j c).set 1 (.int (((i : Nat) : Int) + 1))))) r (.lst ((rowV sc (i + 1) j c).set 2 (.int ((((j : Nat) : Int) * 48271 + x + 11) % 2147483647))))) := but_upd _
      have hs2 := hs1.but hr1 sb2
      obtain ⟨v, ev, lv⟩ := mod_nat x n1
      refine ⟨_, rfl, _, _, rfl, rfl, ⟨by decide, by decide, by decide⟩, _, _, rfl, rfl, decide ((10 : Int) ^ (18 : Int).toNat ≤ x), rfl, ?_⟩
      refine ite2 (fun c2 => ?_) (fun c2 => ?_)
      · have big : (10 : Int) ^ (18 : Int).toNat ≤ x := of_decide_eq_true c2
        have big0 : (0 : Int) ≤ x := Int.le_trans (by decide) big
        have dn : 0 ≤ x / ((n : Nat) : Int) := Int.ediv_nonneg big0 (by omega)
        obtain ⟨c', ec⟩ : ∃ c' : Nat, x / ((n : Nat) : Int) = ((c' : Nat) : Int) := ⟨(x / ((n : Nat) : Int)).toNat, by omega⟩
        refine ⟨_, rfl, _, rfl, _, _, rfl, rfl, ⟨npos, by omega⟩, _, rfl, r, _, _, 3, rfl, rfl, hr2, rfl, ?_⟩
        have e3 : (rowV sc (i + 1) j' c).set 3 (.int (x / ((n : Nat) : Int))) = rowV sc (i + 1) j' c' := by rw [ec]; rfl
        refine ⟨_, rfl, .inl ⟨_, rfl, _, rfl, _, _, rfl, rfl, npos, ?_⟩⟩
        have fin := q _ v lv ((sb1.trans sb2).trans (but_upd (d := r) (.lst ((rowV sc (i + 1) j' c).set 3 (.int (x / ((n : Nat) : Int))))))) ⟨i + 1, j', c', upd_same.trans (congrArg (fun xs => some (HO.lst xs)) e3), hs2.but hr2 (but_upd _), lj⟩
        rw [← ev] at fin
        exact fin
      · refine ⟨_, rfl, .inl ⟨_, rfl, _, rfl, _, _, rfl, rfl, npos, ?_⟩⟩
        have fin := q _ v lv (sb1.trans sb2) ⟨i + 1, j', c, hr2, hs2, lj⟩
        rw [← ev] at fin
        exact fin
end
end FT
set_option Elab.async false
set_option linter.all false
set_option maxRecDepth 100000
set_option maxHeartbeats 4000000
namespace FT
open PySem PySem.Spec PyProof.Rows L2
section
variable {P : Program} {w : World} {K : PySem.W.Frag} {mg : Str → Option Value} {base : Heap}
/-! ### _law_pick, _law_line -/
def spPick (K : PySem.W.Frag) : Sp := fun vs H Q _ => ∃ (r t sc : Addr) (ns : List Int) (ou : Option HO), vs = [.ref r, .ref t] ∧ RowAt K H r sc ns ou ∧ H t = some (.lst [.int 3, .int 6, .int 40]) ∧
  ∀ H' (v : Nat), 1 ≤ v → v ≤ 40 → SameBut r H H' → RowAt K H' r sc ns ou → Q (.int ((v : Nat) : Int)) H'
theorem row_ne {H : Hp} {r sc t : Addr} {ns : List Int} {ou : Option HO} {x : Int} {l : List V} (h : RowAt K H r sc ns ou) (e : H t = some (.lst (.int x :: l))) : t ≠ r := by
  obtain ⟨i, j, c, h1, _⟩ := h
  exact ne_of e h1 (fun z => by
    injection z with z
    injection z with z _
    cases z)
theorem kn_Lpick (T : Tp K mg) : Kn P w K mg base 2 "_law_pick" ps_Lpick (spPick K) := by
  refine kn_of T.d_Lpick sc_Lpick (fun vs H Q E h => ?_) (fun f cdv A outer s H vs Q E hr h => ?_)
  · obtain ⟨r, t, sc, ns, ou, rfl, _⟩ := h
    rfl
  obtain ⟨r, t, sc, ns, ou, rfl, RA, ht, q⟩ := h
  refine ⟨_, pss_one (ps_ret (pe_ix ix_list (pv 1) (pe_kn (kn_Ltaken T) hr (pa_cons (pv 0) (pa_cons (pe_callB call_len_seq rfl T.n_len PySem.boot_len (pa_cons (pv 1) pa_nil)) pa_nil))) (fun _ _ => rfl))), ?_⟩
  refine ⟨_, rfl, _, rfl, _, rfl, t, _, rfl, .inl (SqL.of ht), r, sc, ns, ou, 3, rfl, RA, by decide, by decide, fun H' v lv sb ra => ?_⟩
  have ht' := sb _ _ (row_ne RA ht) ht
  have hv : v = 0 ∨ v = 1 ∨ v = 2 := by omega
  rcases hv with rfl | rfl | rfl
  · exact ⟨t, _, _, _, rfl, rfl, SqL.of ht', atI_nat (j := 0) rfl, q H' 3 (by decide) (by decide) sb ra⟩
  · exact ⟨t, _, _, _, rfl, rfl, SqL.of ht', atI_nat (j := 1) rfl, q H' 6 (by decide) (by decide) sb ra⟩
  · exact ⟨t, _, _, _, rfl, rfl, SqL.of ht', atI_nat (j := 2) rfl, q H' 40 (by decide) (by decide) sb ra⟩
theorem none_but {H H1 : Hp} {r d : Addr} {o : HO} (s : SameBut r H H1) (hr : H1 r = some o) (n : H1 d = none) : H d = none := by
  cases e : H d with
  | none => rfl
  | some u =>
    have dr : d ≠ r := fun z => by
      rw [z, hr] at n
      cases n
    have := s _ _ dr e
    rw [n] at this
    cases this
theorem row_some {H : Hp} {r sc : Addr} {ns : List Int} {ou : Option HO} (h : RowAt K H r sc ns ou) : ∃ o, H r = some o := by
  obtain ⟨i, j, c, h1, _⟩ := h
  exact ⟨_, h1⟩
/-- one more cell is, or is not, in it -/
theorem more_of (p : Nat → Bool) (b : Bool) (i : Nat) : ∃ p' : Nat → Bool, (List.range (i + 1)).filter p' = (List.range i).filter p ++ (if b = true then [i] else []) := by
  refine ⟨fun k => if k = i then b else p k, ?_⟩
  rw [List.range_succ, List.filter_append]
  congr 1
  · refine List.filter_congr fun k hk => ?_
    have := List.mem_range.mp hk
    rw [if_neg (by omega)]
  · cases b with
    | true => simp
    | false => simp
def spLine (K : PySem.W.Frag) : Sp := fun vs H Q _ => ∃ (r sc : Addr) (ns : List Int) (ou : Option HO) (cl : Nat), vs = [.ref r, .int 11, .int ((cl : Nat) : Int)] ∧ RowAt K H r sc ns ou ∧ 1 ≤ cl ∧ cl ≤ 3 ∧
  ∀ H' (l : Addr) (cs hd : List Nat) (rg : Bool), SameBut r H H' → LnAt H' l cs hd rg → Lok cs hd rg → cok cs.length cs → Q (.ref l) H'
theorem kn_Lline (T : Tp K mg) : Kn P w K mg base 3 "_law_line" ps_Lline (spLine K) := by
  refine kn_of T.d_Lline sc_Lline (fun vs H Q E h => ?_) (fun f cdv A outer s H vs Q E hr h => ?_)
  · obtain ⟨r, sc, ns, ou, cl, rfl, _⟩ := h
    rfl
  obtain ⟨r, sc, ns, ou, cl, rfl, RA, c1, c3, q⟩ := h
  refine ⟨_, pss_cons (ps_set (i := 3) sc_Lline.nd rfl (.inl rfl) (pe_cmpR op_eq (pe_kn (kn_Ltaken T) hr (pa_cons (pv 0) (pa_cons pe_int pa_nil))) pe_int (nomark _)))
    (C8.pss_cut (ps_set (i := 4) sc_Lline.nd rfl (.inl rfl) (pe_ifExp (pt_val (pv 3)) (pe_op op_add pe_int (pe_kn (kn_Ltaken T) hr (pa_cons (pv 0) (pa_cons (pe_op op_sub (pv 1) pe_int) pa_nil)))) (pe_op op_add pe_int (pe_kn (kn_Ltaken T) hr (pa_cons (pv 0) (pa_cons (pv 1) pa_nil))))))
    (pss_cons (ps_par (by rfl) sc_Lline.nd (i := 5) (j := 6) rfl rfl (by decide) rfl rfl (pa_cons (pe_kn (kn_Ltaken T) hr (pa_cons (pv 0) (pa_cons pe_int pa_nil))) (pa_cons (pe_lst (pa_cons (pe_kn (kn_Ltaken T) hr (pa_cons (pv 0) (pa_cons (pv 2) pa_nil))) (pa_cons (pe_kn (kn_Ltaken T) hr (pa_cons (pv 0) (pa_cons (pv 2) pa_nil))) pa_nil))) pa_nil)) (by rfl))
    (pss_cons (ps_for PassesOwn.never rfl (pi_range2 rfl T.n_range (pa_cons pe_int (pa_cons (pv 4) pa_nil))) (pg_name (i := 7) sc_Lline.nd rfl (.inl rfl))
      (pss_cons (ps_set (i := 8) sc_Lline.nd rfl (.inl rfl) (pe_kn (kn_Ltaken T) hr (pa_cons (pv 0) (pa_cons (pv 2) pa_nil))))
      (pss_one (ps_expr (pe_bm PySem.F.plainAttrs_list PySem.F.slot_list_append PySem.F.type_list_append mt_append (pv 6) (pa_cons (pe_ifExp (PW.pt (pw_and (pt_cmpR op_gt (pv 5) pe_int (nomark _)) (pw_and1 (pt_cmpR op_lt (pe_kn (kn_Ltaken T) hr (pa_cons (pv 0) (pa_cons pe_int pa_nil))) (pe_op op_add (pv 5) pe_int) (nomark _)))))
        (pe_ix ix_list (pv 6) (pe_op op_sub (pv 7) pe_int) (fun _ _ => rfl)) (pv 8)) pa_nil))))))
    (pss_cons (ps_set (i := 9) sc_Lline.nd rfl (.inr rfl) (pe_kn (kn_Lpick T) hr (pa_cons (pv 0) (pa_cons (pe_lst (pa_cons pe_int (pa_cons pe_int (pa_cons pe_int pa_nil)))) pa_nil))))
    (pss_cons (ps_set (i := 10) sc_Lline.nd rfl (.inl rfl) (pe_callTy call_tuple_of rfl T.n_tuple (by decide +kernel) (pa_cons (pe_lc (own := [("_law_k", 7)]) (g := gName 7) rfl sc_Lline.nd (pi_range1 rfl T.n_range (pa_cons (pv 4) pa_nil)) (blkOk_by (own := [("_law_k", 7)]) (N := ns_Lline) (sc := defScope s_Lline) (by decide +kernel))
      (fun _ _ _ _ _ => pg_name (i := 7) sc_Lline.nd rfl (Or.inl rfl)) (fun _ _ _ _ _ => pts_one (pt_cmpR op_eq (pe_kn (kn_Ltaken T) hr (pa_cons (pv 0) (pa_cons (pv 9) pa_nil))) pe_int (nomark _))) (fun _ _ _ _ _ => pv 7)) pa_nil)))
    (pss_one (ps_ret (pe_tup (pa_cons (pe_callTy call_tuple_of rfl T.n_tuple (by decide +kernel) (pa_cons (pe_slice (r := rSlL K) sl_list (pv 6) po_none (po_some (pv 4))) pa_nil)) (pa_cons (pv 10) (pa_cons (pv 3) pa_nil))))))))))), ?_⟩
  refine ⟨_, rfl, r, sc, ns, ou, 2, rfl, RA, by decide, by decide, fun H1 v1 _ sb1 RA1 => ⟨rfl, ?_⟩⟩
  generalize decide (V.int ((v1 : Nat) : Int) = V.int 0) = rg
  refine ⟨fun σ' H' => ∃ n : Nat, 1 ≤ n ∧ n ≤ 11 ∧ (rg = true → 3 ≤ n) ∧ σ' = [some (.ref r), some (.int 11), some (.int ((cl : Nat) : Int)), some (.bl rg), some (.int ((n : Nat) : Int)), none, none, none, none, none, none] ∧ SameBut r H H' ∧ RowAt K H' r sc ns ou, ?_, ?_⟩
  · refine ⟨_, rfl, rg, rfl, ?_⟩
    cases rg with
    | true =>
      refine iteT ⟨_, rfl, _, rfl, _, _, rfl, rfl, r, sc, ns, ou, 9, rfl, RA1, by decide, by decide, fun H2 v2 l2 sb2 RA2 => ⟨_, _, rfl, rfl, 3 + v2, by omega, by omega, fun _ => by omega, ?_, sb1.trans sb2, RA2⟩⟩
      rw [Int.natCast_add]
      rfl
    | false =>
      refine iteF ⟨_, rfl, _, rfl, r, sc, ns, ou, 11, rfl, RA1, by decide, by decide, fun H2 v2 l2 sb2 RA2 => ⟨_, _, rfl, rfl, 1 + v2, by omega, by omega, (fun z => by cases z), ?_, sb1.trans sb2, RA2⟩⟩
      rw [Int.natCast_add]
      rfl
  rintro σ' H2 ⟨n, n1, n11, r3, rfl, sb2, RA2⟩
  refine ⟨_, rfl, r, sc, ns, ou, 4, rfl, RA2, by decide, by decide, fun H3 way _ sb3 RA3 => ?_⟩
  refine ⟨_, rfl, _, rfl, r, sc, ns, ou, cl, rfl, RA3, c1, by omega, fun H4 a1 la1 sb4 RA4 => ?_⟩
  refine ⟨_, rfl, _, rfl, r, sc, ns, ou, cl, rfl, RA4, c1, by omega, fun H5 a2 la2 sb5 RA5 => ?_⟩
  refine ⟨(by show 2 ≤ sizeLine; decide), fun p np => ?_⟩
  have sA := ((sb2.trans sb3).trans sb4).trans sb5
  have npH : H p = none := by obtain ⟨o, ho⟩ := row_some RA5; exact none_but sA ho np
  have s6 := same_new np (.lst [.int ((a1 : Nat) : Int), .int ((a2 : Nat) : Int)])
  have RA6 := RA5.same s6
  refine ⟨_, _, rfl, ?_⟩
  refine ⟨_, rfl, 2, ((n : Nat) : Int), rfl, ⟨by decide, by decide, by omega, by omega⟩, ?_⟩
  have en : (((n : Nat) : Int) - 2).toNat = n - 2 := by omega
  rw [en]
  have pr : p ≠ r := fun z => by
    obtain ⟨o, ho⟩ := row_some RA5
    rw [z, ho] at np
    cases np
  refine for_range (lo := 2) (n := n - 2) (fun i σ' H' => SameBut r H H' ∧ RowAt K H' r sc ns ou ∧ ∃ x7 x8 cs, σ' = [some (.ref r), some (.int 11), some (.int ((cl : Nat) : Int)), some (.bl rg), some (.int ((n : Nat) : Int)), some (.int ((way : Nat) : Int)), some (.ref p), x7, x8, none, none] ∧
      H' p = some (.lst (nv cs)) ∧ cs.length = 2 + i ∧ ∀ x ∈ cs, x < cl)
    ⟨sA.trans (Same.but s6), RA6, none, none, [a1, a2], rfl, upd_same, rfl, fun x hx => by
      rcases List.mem_cons.mp hx with e | hx
      · omega
      · rw [List.mem_singleton.mp hx]
        exact la2⟩ ?_ ?_
  · rintro i σ' H' hi ⟨sb, RAi, x7, x8, cs, rfl, hp, hl, hx⟩
    refine ⟨_, rfl, _, rfl, r, sc, ns, ou, cl, rfl, RAi, c1, by omega, fun H7 fr lfr sb7 RA7 => ?_⟩
    have hp7 := sb7 _ _ pr hp
    refine ⟨_, rfl, .inl ⟨rfl, _, .inl (.inl hp7)⟩, ?_⟩
    -- the store, from any heap and any colour
    have put : ∀ (H8 : Hp) (x : Nat), SameBut r H H8 → RowAt K H8 r sc ns ou → H8 p = some (.lst (nv cs)) → x < cl → ∃ (p_1 : Addr) (xs : List V) (v : V), V.ref p = V.ref p_1 ∧ [V.int ((x : Nat) : Int)] = [v] ∧ H8 p_1 = some (.lst xs) ∧ xs.length < sizeLine ∧
        (SameBut r H (upd H8 p_1 (.lst (xs ++ [v]))) ∧ RowAt K (upd H8 p_1 (.lst (xs ++ [v]))) r sc ns ou ∧ ∃ x7 x8 cs', [some (V.ref r), some (V.int 11), some (V.int ((cl : Nat) : Int)), some (V.bl rg), some (V.int ((n : Nat) : Int)), some (V.int ((way : Nat) : Int)), some (V.ref p), some (V.int (2 + ((i : Nat) : Int))), some (V.int ((fr : Nat) : Int)), none, none] = [some (V.ref r), some (V.int 11), some (V.int ((cl : Nat) : Int)), some (V.bl rg), some (V.int ((n : Nat) : Int)), some (V.int ((way : Nat) : Int)), some (V.ref p), x7, x8, none, none] ∧
          upd H8 p_1 (.lst (xs ++ [v])) p = some (.lst (nv cs')) ∧ cs'.length = 2 + (i + 1) ∧ ∀ x ∈ cs', x < cl) := fun H8 x sb8 RA8 hp8 lx => by
      refine ⟨p, _, _, rfl, rfl, hp8, ?_, but_mut sb8 npH _, RA5.own np RA8 _, _, _, cs ++ [x], rfl, ?_, ?_, fun y hy => ?_⟩
      · rw [nv_length]
        exact len_le (by omega)
      · rw [upd_same, nv_snoc]
      · rw [List.length_append, hl]
        rfl
      · rcases List.mem_append.mp hy with hy | hy
        · exact hx y hy
        · rw [List.mem_singleton.mp hy]
          exact lx
    have take2 : ∀ (H8 : Hp), H8 p = some (.lst (nv cs)) → atI (nv cs) (2 + ((i : Nat) : Int) - 2) = some (.int ((cs.getD i 0 : Nat) : Int)) := fun H8 _ => by
      have e : 2 + ((i : Nat) : Int) - 2 = ((i : Nat) : Int) := by omega
      rw [e]
      exact nv_at (by omega)
    have mi : cs.getD i 0 < cl := by
      refine hx _ ?_
      rw [List.getD_eq_getElem?_getD, List.getElem?_eq_getElem (by omega : i < cs.length)]
      exact List.getElem_mem _
    refine ⟨_, rfl, _, _, rfl, rfl, decide (0 < ((way : Nat) : Int)), rfl, ?_⟩
    refine ite2 (fun w0 => ?_) (fun w0 => ?_)
    · refine ⟨_, rfl, r, sc, ns, ou, 5, rfl, RA7, by decide, by decide, fun H8 t lt sb8 RA8 => ⟨_, rfl, _, _, rfl, rfl, _, _, rfl, rfl, decide (((t : Nat) : Int) < ((way : Nat) : Int) + 1), rfl, ?_⟩⟩
      have hp8 := sb8 _ _ pr hp7
      refine ite2 (fun w1 => ?_) (fun w1 => ?_)
      · exact ⟨_, rfl, _, rfl, _, _, rfl, rfl, p, _, _, _, rfl, rfl, SqL.of hp8, take2 H8 hp8, put H8 _ ((sb.trans sb7).trans sb8) RA8 hp8 mi⟩
      · exact ⟨_, rfl, put H8 _ ((sb.trans sb7).trans sb8) RA8 hp8 lfr⟩
    · refine iteF ⟨_, rfl, put H7 _ (sb.trans sb7) RA7 hp7 lfr⟩
  · rintro σ' H' ⟨sb, RAi, x7, x8, cs, rfl, hp, hl, hx⟩
    refine ⟨_, rfl, (by show 3 ≤ sizeLine; decide), fun t nt => ?_⟩
    have s7 := same_new nt (.lst [.int 3, .int 6, .int 40])
    refine ⟨r, t, sc, ns, ou, rfl, RAi.same s7, upd_same, fun H8 th th1 th40 sb8 RA8 => ?_⟩
    refine ⟨_, rfl, ((n : Nat) : Int), rfl, by omega, by omega, fun D nD => ?_⟩
    have en2 : (((n : Nat) : Int)).toNat = n := rfl
    rw [en2]
    have sB := (sb.trans (Same.but s7)).trans sb8
    have hp8 := sb8 _ _ pr (s7 _ _ hp)
    have nDH : H8 D = none := nD
    have nDh : H D = none := by obtain ⟨o, ho⟩ := row_some RA8; exact none_but sB ho nD
    have Dr : D ≠ r := fun z => by
      obtain ⟨o, ho⟩ := row_some RA8
      rw [z, ho] at nD
      cases nD
    have Dp : p ≠ D := ne_of_none hp8 nD
    refine lc_range (lo := 0) (n := n) (fun i H' => SameBut r H H' ∧ RowAt K H' r sc ns ou ∧ H' p = some (.lst (nv cs)) ∧ ∃ f : Nat → Bool, H' D = some (.lst (nv ((List.range i).filter f))))
      ⟨but_mut sB nDh _, RA8.own nD RA8 _, by rw [upd_ne Dp]; exact hp8, fun _ => true, upd_same⟩ (fun i H' hi pp => ?_) (fun H' pp => ?_)
    · obtain ⟨sb9, RA9, hp9, f, hD9⟩ := pp
      refine ⟨rfl, _, rfl, _, rfl, r, sc, ns, ou, th, rfl, RA9, th1, by omega, fun H10 v lv sb10 RA10 => ⟨rfl, ?_⟩⟩
      generalize hg : decide (V.int ((v : Nat) : Int) = V.int 0) = g
      refine ⟨g, rfl, ?_⟩
      have hD10 := sb10 _ _ Dr hD9
      have hp10 := sb10 _ _ pr hp9
      obtain ⟨f', ef⟩ := more_of f g i
      have ei : (0 : Int) + ((i : Nat) : Int) = ((i : Nat) : Int) := by omega
      rw [ei]
      cases g with
      | true =>
        refine iteT ⟨_, rfl, _, hD10, ?_, but_mut (sb9.trans sb10) nDh _, RA8.own nD RA10 _, by rw [upd_ne Dp]; exact hp10, f', ?_⟩
        · rw [nv_length]
          have := List.length_filter_le f (List.range i)
          rw [List.length_range] at this
          exact len_le (by omega)
        · rw [ef, if_pos rfl, upd_same, nv_snoc]
      | false =>
        refine iteF ⟨sb9.trans sb10, RA10, hp10, f', ?_⟩
        rw [ef, if_neg Bool.false_ne_true, List.append_nil]
        exact hD10
    · obtain ⟨sb9, RA9, hp9, f, hD9⟩ := pp
      refine ⟨D, _, rfl, .inl ⟨SqL.of hD9, fun hd nhd => ?_⟩⟩
      have s10 := same_new nhd (.tup (nv ((List.range n).filter f)))
      refine ⟨_, rfl, _, rfl, _, rfl, p, _, rfl, SqL.of (s10 _ _ hp9), fun u nu => ?_⟩
      have lc : n ≤ cs.length := by omega
      have s11 := same_new nu (.lst (cutV (nv cs) none (some ((n : Nat) : Int))))
      refine ⟨u, _, rfl, .inl ⟨SqL.of upd_same, fun ct nct => ?_⟩⟩
      have s12 := same_new nct (.tup (cutV (nv cs) none (some ((n : Nat) : Int))))
      refine ⟨_, rfl, _, rfl, (by show 3 ≤ sizeLine; decide), fun l nl => ?_⟩
      have s13 := same_new nl (.tup [.ref ct, .ref hd, .bl rg])
      have e : cutV (nv cs) none (some ((n : Nat) : Int)) = nv (cs.take n) := cut_head lc
      have hct := s13 _ _ (upd_same (H := upd (upd H' hd (.tup (nv ((List.range n).filter f)))) u (.lst (cutV (nv cs) none (some ((n : Nat) : Int))))) (a := ct) (o := .tup (cutV (nv cs) none (some ((n : Nat) : Int)))))
      have hhd := s13 _ _ (s12 _ _ (s11 _ _ (upd_same (H := H') (a := hd) (o := .tup (nv ((List.range n).filter f))))))
      have tl : (cs.take n).length = n := by rw [List.length_take]; omega
      have less : ∀ x ∈ cs.take n, x < cl := fun x h => hx x (List.mem_of_mem_take h)
      refine q _ l (cs.take n) ((List.range n).filter f) rg (sb9.trans (Same.but ((((s10.trans s11).trans s12).trans s13)))) ⟨ct, hd, upd_same, ?_, hhd⟩
        ⟨by omega, by omega, fun z => by rw [tl]; exact r3 z, fun x h => by have := less x h; omega, ⟨f, by rw [tl]⟩⟩ ⟨rfl, fun x h => by have := less x h; omega⟩
      rw [e] at hct
      rw [e]
      exact hct
end
end FT
set_option Elab.async false
set_option linter.all false
set_option maxRecDepth 100000
set_option maxHeartbeats 4000000
namespace FT
open PySem PySem.Spec PyProof.Rows L2
section
variable {P : Program} {w : World} {K : PySem.W.Frag} {mg : Str → Option Value} {base : Heap}
/-! ### law -/
def spLaw (K : PySem.W.Frag) : Sp := fun vs H Q _ => ∃ (a : Addr) (ns : List Int), vs = [.ref a] ∧ SqL K H a (ns.map V.int) ∧ ns.length ≤ 63 ∧ ∀ H', Q (.bl true) H'
theorem mem_tup {P : Program} {w : World} {f : List Nat → Bool → Nat} {dom : List Nat → Prop} {H H' : Hp} {d : Addr} {xs : List MX} (m : Mem P w f dom H d xs) (sb : SameBut d H H') : ∀ a ys, H a = some (.tup ys) → H' a = some (.tup ys) := fun a ys e => sb _ _ (ne_of e m.at' (fun z => nomatch z)) e
theorem law_ok (T : Tp K mg) {f : Addr} {fd : FuncData} (F : Fun K "law" "law" s_law f fd) : FnOk P w K mg base CX0 16 f fd ps_law (spLaw K) := by
  refine F.ok sc_law (fun vs H Q E h => ?_) (fun cdv A outer s H vs Q E hr h => ?_)
  · obtain ⟨a, ns, rfl, _⟩ := h
    rfl
  obtain ⟨a, ns, rfl, hS, _, q⟩ := h
  refine ⟨_, pss_cons (ps_set (i := 1) sc_law.nd rfl (.inl rfl) (pe_lst (pa_cons (pv 0) (pa_cons pe_int (pa_cons pe_int (pa_cons pe_int pa_nil))))))
    (pss_cons (ps_set (i := 2) sc_law.nd rfl (.inl rfl) (pe_kn (kn_Lline T) hr (pa_cons (pv 1) (pa_cons pe_int (pa_cons (pe_op op_add pe_int (pe_kn (kn_Ltaken T) hr (pa_cons (pv 1) (pa_cons pe_int pa_nil)))) pa_nil)))))
    (pss_cons (ps_set (i := 3) sc_law.nd rfl (.inl rfl) pe_mnew)
    (pss_cons (ps_for PassesOwn.never rfl (pi_list (pe_lst (pa_cons pe_bl (pa_cons pe_bl pa_nil)))) (pg_name (i := 4) sc_law.nd rfl (.inl rfl))
      (pss_cons (ps_set (i := 5) sc_law.nd rfl (.inl rfl) (pe_kn (kn_valL T 12) hr (pa_cons (pv 2) (pa_cons (pe_ix ix_tup (pv 2) pe_int (fun _ _ => rfl)) (pa_cons (pv 4) (pa_cons (pv 3) pa_nil))))))
      (pss_one (ps_if (PW.pt (pw_or (pt_not (pt_val (pe_kn (kn_alike T) hr (pa_cons (pe_kn (kn_turns T) hr (pa_cons (pv 2) (pa_cons (pv 4) pa_nil))) (pa_cons (pv 5) pa_nil)))))
        (pw_or1 (pt_not (pt_chain op_le op_le (pe_kn (kn_fewest T) hr (pa_cons (pv 2) pa_nil)) (pv 5) (pe_kn (kn_most T) hr (pa_cons (pv 2) pa_nil))))))) pss_never pss_nil))))
    (pss_one (ps_ret (pe_cmpR op_eq (pe_kn (kn_turns T) hr (pa_cons (pv 2) (pa_cons pe_bl pa_nil))) (pe_mget (u9 hr) (pv 3) (pe_tup (pa_cons (pe_ix ix_tup (pv 2) pe_int (fun _ _ => rfl)) (pa_cons pe_bl pa_nil))) (fun _ _ => rfl)) (nomark _))))))), ?_⟩
  obtain ⟨ou, hsc⟩ := scOk_of hS
  refine ⟨_, rfl, (by show 4 ≤ sizeLine; decide), fun r nr => ?_⟩
  have s1 := same_new nr (.lst [.ref a, .int 0, .int 8224, .int 0])
  have RA1 : RowAt K (upd H r (.lst [.ref a, .int 0, .int 8224, .int 0])) r a ns ou := ⟨0, 8224, 0, upd_same, hsc.same s1, by decide⟩
  refine ⟨_, rfl, _, rfl, r, a, ns, ou, 2, rfl, RA1, by decide, by decide, fun H2 v lv sb2 RA2 => ⟨_, _, rfl, rfl, r, a, ns, ou, 2 + v, ?_, RA2, by omega, by omega, fun H3 l cs hd rg sb3 LA ok ck => ?_⟩⟩
  · rw [Int.natCast_add]
    rfl
  obtain ⟨c, h, hl, hc, hh⟩ := id LA
  have n1 := ok.n1
  have n11 := ok.n11
  have rl := sub_len (rdy_sub cs.length hd rg cs)
  refine fun d nd => ?_
  have s4 := same_new nd (MemO P w d [])
  refine ⟨(by show 2 ≤ sizeLine; decide), fun z nz => ⟨z, rfl, ⟨_, SqL.of upd_same⟩, ?_⟩⟩
  have s5 := same_new nz (.lst [.bl false, .bl true])
  have zd : z ≠ d := fun e => by
    rw [e, upd_same] at nz
    cases nz
  have s45 := s4.trans s5
  have m5 : Mem P w (cv cs.length hd rg) (cok cs.length) (upd (upd H3 d (MemO P w d [])) z (.lst [.bl false, .bl true])) d [] := mem_nil.keep s5
  have hz5 : upd (upd H3 d (MemO P w d [])) z (.lst [.bl false, .bl true]) z = some (.lst [.bl false, .bl true]) := upd_same
  refine for_list (K := K) (a := z) (xs := [.bl false, .bl true]) (fun i σ' H' => ∃ xs x4 x5, SameBut d (upd (upd H3 d (MemO P w d [])) z (.lst [.bl false, .bl true])) H' ∧ Mem P w (cv cs.length hd rg) (cok cs.length) H' d xs ∧ (i = 2 → hasK xs (nk cs true) = true) ∧ σ' = [some (.ref a), some (.ref r), some (.ref l), some (.ref d), x4, x5])
    ⟨[], none, none, SameBut.refl _ _, m5, (fun z => nomatch z), rfl⟩ (fun i σ' H' _ pp => by obtain ⟨_, _, _, sb, _⟩ := pp; exact SqL.of (sb _ _ zd hz5)) ?_ ?_
  · rintro i x σ' H' hx ⟨xs, x4, x5, sb, m', _, rfl⟩
    obtain ⟨b, rfl, hb⟩ : ∃ b : Bool, x = .bl b ∧ (i = 1 → b = true) := by
      match i, hx with
      | 0, hx => cases hx; exact ⟨false, rfl, fun z => nomatch z⟩
      | 1, hx => cases hx; exact ⟨true, rfl, fun _ => rfl⟩
    have il : i < 2 := (List.getElem?_eq_some_iff.mp hx).1
    have tp : ∀ a ys, H3 a = some (.tup ys) → H' a = some (.tup ys) := fun a ys e => mem_tup m5 sb a ys (s45 _ _ e)
    have LA' := LA.tup tp
    refine ⟨_, rfl, _, rfl, l, _, _, _, rfl, rfl, SqT.of (tp _ _ hl), atI_nat (j := 0) rfl, _, rfl, _, rfl, l, c, d, b, cs, cs, hd, rg, xs, rfl, LA', ok, tp _ _ hc, ck, by omega, m', fun H6 xs6 sb6 m6 hk6 => ?_⟩
    have LA6 := LA'.tup (mem_tup m' sb6)
    refine ⟨_, rfl, _, rfl, l, cs, hd, rg, b, rfl, LA6, ok, fun H7 s7 => ⟨_, rfl, _, _, rfl, fun H8 s8 => ⟨true, congrArg V.bl (decide_eq_true rfl), iteF ?_⟩⟩⟩
    have s78 := s7.trans s8
    refine ⟨_, rfl, l, cs, hd, rg, rfl, LA6.same s78, ok, fun H9 fw s9 hf => ⟨_, rfl, _, _, rfl, rfl, true, congrArg V.bl (decide_eq_true (by have := hf b; unfold cv; omega)), ?_⟩⟩
    refine iteT ⟨_, rfl, l, cs, hd, rg, rfl, LA6.same (s78.trans s9), ok, fun H10 mo s10 hmo => ⟨_, _, rfl, rfl, true, congrArg V.bl (decide_eq_true (by have := hmo b; unfold cv; omega)), iteF ?_⟩⟩
    have sE := (s78.trans s9).trans s10
    have hk7 : i + 1 = 2 → hasK xs6 (nk cs true) = true := fun e => by
      have e1 : i = 1 := by omega
      rw [hb e1] at hk6
      exact hk6
    exact ⟨xs6, _, _, (sb.trans sb6).trans (Same.but sE), m6.keep sE, hk7, rfl⟩
  · rintro σ' H' ⟨xs, x4, x5, sb, m', hk, rfl⟩
    have tp : ∀ a ys, H3 a = some (.tup ys) → H' a = some (.tup ys) := fun a ys e => mem_tup m5 sb a ys (s45 _ _ e)
    have LA' := LA.tup tp
    refine ⟨_, rfl, l, cs, hd, rg, true, rfl, LA', ok, fun H7 s7 => ?_⟩
    have m7 := m'.keep s7
    refine ⟨_, rfl, _, rfl, l, _, _, _, rfl, rfl, SqT.of (s7 _ _ (tp _ _ hl)), atI_nat (j := 0) rfl, (by show 2 ≤ sizeLine; decide), fun t nt => ?_⟩
    have s8 := same_new nt (.tup [.ref c, .bl true])
    refine ⟨d, t, xs, cv cs.length hd rg, cok cs.length, cs, true, rfl, rfl, m7.keep s8, ⟨c, upd_same, s8 _ _ (s7 _ _ (tp _ _ hc))⟩, hk rfl, rfl, ?_⟩
    have e : decide (V.int ((tv cs.length (rdy cs.length hd rg cs) true : Nat) : Int) = V.int ((cv cs.length hd rg cs true : Nat) : Int)) = true := decide_eq_true rfl
    show Q (.bl (decide (V.int ((tv cs.length (rdy cs.length hd rg cs) true : Nat) : Int) = V.int ((cv cs.length hd rg cs true : Nat) : Int)))) _
    rw [e]
    exact q _
theorem law_fin (T : Tp K mg) {fa : Addr} (hfa : mg "law" = some (.ref fa)) :
    ∃ fd : FuncData, (∀ (s : Shared) (v : Value), BindsTo s fd ⟨[v], []⟩ [("_law_script", v)]) ∧ ∀ base : Heap, K.In base → base.Ns mainGlobals mg → FnOk P w K mg base CX0 40 fa fd ["_law_script"] (spLaw K) := by
  obtain ⟨f, fd, F, b, m⟩ := T.d_law
  cases hfa.symm.trans m
  refine ⟨fd, fun s v => ?_, fun base _ _ => (law_ok T F).mono (by decide)⟩
  obtain ⟨oc, od, kV, doc, pm, an, cdv, ct, osl, rfl, lk, hcd⟩ := F.ex
  exact .of_eq rfl
end
end FT
set_option Elab.async false
set_option linter.all false
set_option maxRecDepth 100000
set_option maxHeartbeats 4000000
namespace FT
open PySem L2
theorem tp_mk {K : PySem.W.Frag} {h : Heap} {mg : Str → Option Value} (X : K.In h) (G : h.Ns mainGlobals mg)
    {f0 : Addr} {od0 an0 : Option Addr} {sl0 : Array (Option Value)} {oc0 kV0 dc0 pm0 cd0 ct0 : Value}
    (a0 : PySem.W.nsIn K mainGlobals "is_in" = some (some (.ref f0))) (l0 : K.lookup f0 = some ⟨oc0, od0, .func (PySem.W.fnOf "is_in" "is_in" (defArgs s_isin) (defBody s_isin) (defScope s_isin) .none kV0 dc0 pm0 an0 cd0 ct0), sl0⟩) (e0 : PySem.W.codeIn K cd0 "is_in" = true) (k0 : PySem.W.keepIn K (.ref f0) = true)
    {f1 : Addr} {od1 an1 : Option Addr} {sl1 : Array (Option Value)} {oc1 kV1 dc1 pm1 cd1 ct1 : Value}
    (a1 : PySem.W.nsIn K mainGlobals "need_line" = some (some (.ref f1))) (l1 : K.lookup f1 = some ⟨oc1, od1, .func (PySem.W.fnOf "need_line" "need_line" (defArgs s_needline) (defBody s_needline) (defScope s_needline) .none kV1 dc1 pm1 an1 cd1 ct1), sl1⟩) (e1 : PySem.W.codeIn K cd1 "need_line" = true) (k1 : PySem.W.keepIn K (.ref f1) = true)
    {f2 : Addr} {od2 an2 : Option Addr} {sl2 : Array (Option Value)} {oc2 kV2 dc2 pm2 cd2 ct2 : Value}
    (a2 : PySem.W.nsIn K mainGlobals "is_cells" = some (some (.ref f2))) (l2 : K.lookup f2 = some ⟨oc2, od2, .func (PySem.W.fnOf "is_cells" "is_cells" (defArgs s_iscells) (defBody s_iscells) (defScope s_iscells) .none kV2 dc2 pm2 an2 cd2 ct2), sl2⟩) (e2 : PySem.W.codeIn K cd2 "is_cells" = true) (k2 : PySem.W.keepIn K (.ref f2) = true)
    {f3 : Addr} {od3 an3 : Option Addr} {sl3 : Array (Option Value)} {oc3 kV3 dc3 pm3 cd3 ct3 : Value}
    (a3 : PySem.W.nsIn K mainGlobals "held_in" = some (some (.ref f3))) (l3 : K.lookup f3 = some ⟨oc3, od3, .func (PySem.W.fnOf "held_in" "held_in" (defArgs s_heldin) (defBody s_heldin) (defScope s_heldin) .none kV3 dc3 pm3 an3 cd3 ct3), sl3⟩) (e3 : PySem.W.codeIn K cd3 "held_in" = true) (k3 : PySem.W.keepIn K (.ref f3) = true)
    {f4 : Addr} {od4 an4 : Option Addr} {sl4 : Array (Option Value)} {oc4 kV4 dc4 pm4 cd4 ct4 : Value}
    (a4 : PySem.W.nsIn K mainGlobals "flanks" = some (some (.ref f4))) (l4 : K.lookup f4 = some ⟨oc4, od4, .func (PySem.W.fnOf "flanks" "flanks" (defArgs s_flanks) (defBody s_flanks) (defScope s_flanks) .none kV4 dc4 pm4 an4 cd4 ct4), sl4⟩) (e4 : PySem.W.codeIn K cd4 "flanks" = true) (k4 : PySem.W.keepIn K (.ref f4) = true)
    {f5 : Addr} {od5 an5 : Option Addr} {sl5 : Array (Option Value)} {oc5 kV5 dc5 pm5 cd5 ct5 : Value}
    (a5 : PySem.W.nsIn K mainGlobals "is_flanked" = some (some (.ref f5))) (l5 : K.lookup f5 = some ⟨oc5, od5, .func (PySem.W.fnOf "is_flanked" "is_flanked" (defArgs s_isflanked) (defBody s_isflanked) (defScope s_isflanked) .none kV5 dc5 pm5 an5 cd5 ct5), sl5⟩) (e5 : PySem.W.codeIn K cd5 "is_flanked" = true) (k5 : PySem.W.keepIn K (.ref f5) = true)
    {f6 : Addr} {od6 an6 : Option Addr} {sl6 : Array (Option Value)} {oc6 kV6 dc6 pm6 cd6 ct6 : Value}
    (a6 : PySem.W.nsIn K mainGlobals "ready_in" = some (some (.ref f6))) (l6 : K.lookup f6 = some ⟨oc6, od6, .func (PySem.W.fnOf "ready_in" "ready_in" (defArgs s_readyin) (defBody s_readyin) (defScope s_readyin) .none kV6 dc6 pm6 an6 cd6 ct6), sl6⟩) (e6 : PySem.W.codeIn K cd6 "ready_in" = true) (k6 : PySem.W.keepIn K (.ref f6) = true)
    {f7 : Addr} {od7 an7 : Option Addr} {sl7 : Array (Option Value)} {oc7 kV7 dc7 pm7 cd7 ct7 : Value}
    (a7 : PySem.W.nsIn K mainGlobals "swings_in" = some (some (.ref f7))) (l7 : K.lookup f7 = some ⟨oc7, od7, .func (PySem.W.fnOf "swings_in" "swings_in" (defArgs s_swingsin) (defBody s_swingsin) (defScope s_swingsin) .none kV7 dc7 pm7 an7 cd7 ct7), sl7⟩) (e7 : PySem.W.codeIn K cd7 "swings_in" = true) (k7 : PySem.W.keepIn K (.ref f7) = true)
    {f8 : Addr} {od8 an8 : Option Addr} {sl8 : Array (Option Value)} {oc8 kV8 dc8 pm8 cd8 ct8 : Value}
    (a8 : PySem.W.nsIn K mainGlobals "stretches_in" = some (some (.ref f8))) (l8 : K.lookup f8 = some ⟨oc8, od8, .func (PySem.W.fnOf "stretches_in" "stretches_in" (defArgs s_stretchesin) (defBody s_stretchesin) (defScope s_stretchesin) .none kV8 dc8 pm8 an8 cd8 ct8), sl8⟩) (e8 : PySem.W.codeIn K cd8 "stretches_in" = true) (k8 : PySem.W.keepIn K (.ref f8) = true)
    {f9 : Addr} {od9 an9 : Option Addr} {sl9 : Array (Option Value)} {oc9 kV9 dc9 pm9 cd9 ct9 : Value}
    (a9 : PySem.W.nsIn K mainGlobals "insides" = some (some (.ref f9))) (l9 : K.lookup f9 = some ⟨oc9, od9, .func (PySem.W.fnOf "insides" "insides" (defArgs s_insides) (defBody s_insides) (defScope s_insides) .none kV9 dc9 pm9 an9 cd9 ct9), sl9⟩) (e9 : PySem.W.codeIn K cd9 "insides" = true) (k9 : PySem.W.keepIn K (.ref f9) = true)
    {f10 : Addr} {od10 an10 : Option Addr} {sl10 : Array (Option Value)} {oc10 kV10 dc10 pm10 cd10 ct10 : Value}
    (a10 : PySem.W.nsIn K mainGlobals "added" = some (some (.ref f10))) (l10 : K.lookup f10 = some ⟨oc10, od10, .func (PySem.W.fnOf "added" "added" (defArgs s_added) (defBody s_added) (defScope s_added) .none kV10 dc10 pm10 an10 cd10 ct10), sl10⟩) (e10 : PySem.W.codeIn K cd10 "added" = true) (k10 : PySem.W.keepIn K (.ref f10) = true)
    {f11 : Addr} {od11 an11 : Option Addr} {sl11 : Array (Option Value)} {oc11 kV11 dc11 pm11 cd11 ct11 : Value}
    (a11 : PySem.W.nsIn K mainGlobals "multiplied" = some (some (.ref f11))) (l11 : K.lookup f11 = some ⟨oc11, od11, .func (PySem.W.fnOf "multiplied" "multiplied" (defArgs s_multiplied) (defBody s_multiplied) (defScope s_multiplied) .none kV11 dc11 pm11 an11 cd11 ct11), sl11⟩) (e11 : PySem.W.codeIn K cd11 "multiplied" = true) (k11 : PySem.W.keepIn K (.ref f11) = true)
    {f12 : Addr} {od12 an12 : Option Addr} {sl12 : Array (Option Value)} {oc12 kV12 dc12 pm12 cd12 ct12 : Value}
    (a12 : PySem.W.nsIn K mainGlobals "path_ends" = some (some (.ref f12))) (l12 : K.lookup f12 = some ⟨oc12, od12, .func (PySem.W.fnOf "path_ends" "path_ends" (defArgs s_pathends) (defBody s_pathends) (defScope s_pathends) .none kV12 dc12 pm12 an12 cd12 ct12), sl12⟩) (e12 : PySem.W.codeIn K cd12 "path_ends" = true) (k12 : PySem.W.keepIn K (.ref f12) = true)
    {f13 : Addr} {od13 an13 : Option Addr} {sl13 : Array (Option Value)} {oc13 kV13 dc13 pm13 cd13 ct13 : Value}
    (a13 : PySem.W.nsIn K mainGlobals "ring_ends" = some (some (.ref f13))) (l13 : K.lookup f13 = some ⟨oc13, od13, .func (PySem.W.fnOf "ring_ends" "ring_ends" (defArgs s_ringends) (defBody s_ringends) (defScope s_ringends) .none kV13 dc13 pm13 an13 cd13 ct13), sl13⟩) (e13 : PySem.W.codeIn K cd13 "ring_ends" = true) (k13 : PySem.W.keepIn K (.ref f13) = true)
    {f14 : Addr} {od14 an14 : Option Addr} {sl14 : Array (Option Value)} {oc14 kV14 dc14 pm14 cd14 ct14 : Value}
    (a14 : PySem.W.nsIn K mainGlobals "by_turns" = some (some (.ref f14))) (l14 : K.lookup f14 = some ⟨oc14, od14, .func (PySem.W.fnOf "by_turns" "by_turns" (defArgs s_byturns) (defBody s_byturns) (defScope s_byturns) .none kV14 dc14 pm14 an14 cd14 ct14), sl14⟩) (e14 : PySem.W.codeIn K cd14 "by_turns" = true) (k14 : PySem.W.keepIn K (.ref f14) = true)
    {f15 : Addr} {od15 an15 : Option Addr} {sl15 : Array (Option Value)} {oc15 kV15 dc15 pm15 cd15 ct15 : Value}
    (a15 : PySem.W.nsIn K mainGlobals "trimmed" = some (some (.ref f15))) (l15 : K.lookup f15 = some ⟨oc15, od15, .func (PySem.W.fnOf "trimmed" "trimmed" (defArgs s_trimmed) (defBody s_trimmed) (defScope s_trimmed) .none kV15 dc15 pm15 an15 cd15 ct15), sl15⟩) (e15 : PySem.W.codeIn K cd15 "trimmed" = true) (k15 : PySem.W.keepIn K (.ref f15) = true)
    {f16 : Addr} {od16 an16 : Option Addr} {sl16 : Array (Option Value)} {oc16 kV16 dc16 pm16 cd16 ct16 : Value}
    (a16 : PySem.W.nsIn K mainGlobals "fewest_turns" = some (some (.ref f16))) (l16 : K.lookup f16 = some ⟨oc16, od16, .func (PySem.W.fnOf "fewest_turns" "fewest_turns" (defArgs s_fewestturns) (defBody s_fewestturns) (defScope s_fewestturns) .none kV16 dc16 pm16 an16 cd16 ct16), sl16⟩) (e16 : PySem.W.codeIn K cd16 "fewest_turns" = true) (k16 : PySem.W.keepIn K (.ref f16) = true)
    {f17 : Addr} {od17 an17 : Option Addr} {sl17 : Array (Option Value)} {oc17 kV17 dc17 pm17 cd17 ct17 : Value}
    (a17 : PySem.W.nsIn K mainGlobals "most_turns" = some (some (.ref f17))) (l17 : K.lookup f17 = some ⟨oc17, od17, .func (PySem.W.fnOf "most_turns" "most_turns" (defArgs s_mostturns) (defBody s_mostturns) (defScope s_mostturns) .none kV17 dc17 pm17 an17 cd17 ct17), sl17⟩) (e17 : PySem.W.codeIn K cd17 "most_turns" = true) (k17 : PySem.W.keepIn K (.ref f17) = true)
    {f18 : Addr} {od18 an18 : Option Addr} {sl18 : Array (Option Value)} {oc18 kV18 dc18 pm18 cd18 ct18 : Value}
    (a18 : PySem.W.nsIn K mainGlobals "further" = some (some (.ref f18))) (l18 : K.lookup f18 = some ⟨oc18, od18, .func (PySem.W.fnOf "further" "further" (defArgs s_further) (defBody s_further) (defScope s_further) .none kV18 dc18 pm18 an18 cd18 ct18), sl18⟩) (e18 : PySem.W.codeIn K cd18 "further" = true) (k18 : PySem.W.keepIn K (.ref f18) = true)
    {f19 : Addr} {od19 an19 : Option Addr} {sl19 : Array (Option Value)} {oc19 kV19 dc19 pm19 cd19 ct19 : Value}
    (a19 : PySem.W.nsIn K mainGlobals "value_of" = some (some (.ref f19))) (l19 : K.lookup f19 = some ⟨oc19, od19, .func (PySem.W.fnOf "value_of" "value_of" (defArgs s_valueof) (defBody s_valueof) (defScope s_valueof) .none kV19 dc19 pm19 an19 cd19 ct19), sl19⟩) (e19 : PySem.W.codeIn K cd19 "value_of" = true) (k19 : PySem.W.keepIn K (.ref f19) = true)
    {f20 : Addr} {od20 an20 : Option Addr} {sl20 : Array (Option Value)} {oc20 kV20 dc20 pm20 cd20 ct20 : Value}
    (a20 : PySem.W.nsIn K mainGlobals "turns_value" = some (some (.ref f20))) (l20 : K.lookup f20 = some ⟨oc20, od20, .func (PySem.W.fnOf "turns_value" "turns_value" (defArgs s_turnsvalue) (defBody s_turnsvalue) (defScope s_turnsvalue) .none kV20 dc20 pm20 an20 cd20 ct20), sl20⟩) (e20 : PySem.W.codeIn K cd20 "turns_value" = true) (k20 : PySem.W.keepIn K (.ref f20) = true)
    {f21 : Addr} {od21 an21 : Option Addr} {sl21 : Array (Option Value)} {oc21 kV21 dc21 pm21 cd21 ct21 : Value}
    (a21 : PySem.W.nsIn K mainGlobals "_law_taken" = some (some (.ref f21))) (l21 : K.lookup f21 = some ⟨oc21, od21, .func (PySem.W.fnOf "_law_taken" "_law_taken" (defArgs s_Ltaken) (defBody s_Ltaken) (defScope s_Ltaken) .none kV21 dc21 pm21 an21 cd21 ct21), sl21⟩) (e21 : PySem.W.codeIn K cd21 "_law_taken" = true) (k21 : PySem.W.keepIn K (.ref f21) = true)
    {f22 : Addr} {od22 an22 : Option Addr} {sl22 : Array (Option Value)} {oc22 kV22 dc22 pm22 cd22 ct22 : Value}
    (a22 : PySem.W.nsIn K mainGlobals "_law_pick" = some (some (.ref f22))) (l22 : K.lookup f22 = some ⟨oc22, od22, .func (PySem.W.fnOf "_law_pick" "_law_pick" (defArgs s_Lpick) (defBody s_Lpick) (defScope s_Lpick) .none kV22 dc22 pm22 an22 cd22 ct22), sl22⟩) (e22 : PySem.W.codeIn K cd22 "_law_pick" = true) (k22 : PySem.W.keepIn K (.ref f22) = true)
    {f23 : Addr} {od23 an23 : Option Addr} {sl23 : Array (Option Value)} {oc23 kV23 dc23 pm23 cd23 ct23 : Value}
    (a23 : PySem.W.nsIn K mainGlobals "_law_line" = some (some (.ref f23))) (l23 : K.lookup f23 = some ⟨oc23, od23, .func (PySem.W.fnOf "_law_line" "_law_line" (defArgs s_Lline) (defBody s_Lline) (defScope s_Lline) .none kV23 dc23 pm23 an23 cd23 ct23), sl23⟩) (e23 : PySem.W.codeIn K cd23 "_law_line" = true) (k23 : PySem.W.keepIn K (.ref f23) = true)
    {f24 : Addr} {od24 an24 : Option Addr} {sl24 : Array (Option Value)} {oc24 kV24 dc24 pm24 cd24 ct24 : Value}
    (a24 : PySem.W.nsIn K mainGlobals "_law_held" = some (some (.ref f24))) (l24 : K.lookup f24 = some ⟨oc24, od24, .func (PySem.W.fnOf "_law_held" "_law_held" (defArgs s_Lheld) (defBody s_Lheld) (defScope s_Lheld) .none kV24 dc24 pm24 an24 cd24 ct24), sl24⟩) (e24 : PySem.W.codeIn K cd24 "_law_held" = true) (k24 : PySem.W.keepIn K (.ref f24) = true)
    {f25 : Addr} {od25 an25 : Option Addr} {sl25 : Array (Option Value)} {oc25 kV25 dc25 pm25 cd25 ct25 : Value}
    (a25 : PySem.W.nsIn K mainGlobals "_law_ready" = some (some (.ref f25))) (l25 : K.lookup f25 = some ⟨oc25, od25, .func (PySem.W.fnOf "_law_ready" "_law_ready" (defArgs s_Lready) (defBody s_Lready) (defScope s_Lready) .none kV25 dc25 pm25 an25 cd25 ct25), sl25⟩) (e25 : PySem.W.codeIn K cd25 "_law_ready" = true) (k25 : PySem.W.keepIn K (.ref f25) = true)
    {f26 : Addr} {od26 an26 : Option Addr} {sl26 : Array (Option Value)} {oc26 kV26 dc26 pm26 cd26 ct26 : Value}
    (a26 : PySem.W.nsIn K mainGlobals "_law_value" = some (some (.ref f26))) (l26 : K.lookup f26 = some ⟨oc26, od26, .func (PySem.W.fnOf "_law_value" "_law_value" (defArgs s_Lvalue) (defBody s_Lvalue) (defScope s_Lvalue) .none kV26 dc26 pm26 an26 cd26 ct26), sl26⟩) (e26 : PySem.W.codeIn K cd26 "_law_value" = true) (k26 : PySem.W.keepIn K (.ref f26) = true)
    {f27 : Addr} {od27 an27 : Option Addr} {sl27 : Array (Option Value)} {oc27 kV27 dc27 pm27 cd27 ct27 : Value}
    (a27 : PySem.W.nsIn K mainGlobals "_law_alike" = some (some (.ref f27))) (l27 : K.lookup f27 = some ⟨oc27, od27, .func (PySem.W.fnOf "_law_alike" "_law_alike" (defArgs s_Lalike) (defBody s_Lalike) (defScope s_Lalike) .none kV27 dc27 pm27 an27 cd27 ct27), sl27⟩) (e27 : PySem.W.codeIn K cd27 "_law_alike" = true) (k27 : PySem.W.keepIn K (.ref f27) = true)
    {f28 : Addr} {od28 an28 : Option Addr} {sl28 : Array (Option Value)} {oc28 kV28 dc28 pm28 cd28 ct28 : Value}
    (a28 : PySem.W.nsIn K mainGlobals "law" = some (some (.ref f28))) (l28 : K.lookup f28 = some ⟨oc28, od28, .func (PySem.W.fnOf "law" "law" (defArgs s_law) (defBody s_law) (defScope s_law) .none kV28 dc28 pm28 an28 cd28 ct28), sl28⟩) (e28 : PySem.W.codeIn K cd28 "law" = true) (k28 : PySem.W.keepIn K (.ref f28) = true)
    (z_isinstance : PySem.W.nsIn K mainGlobals "isinstance" = some none)
    (z_len : PySem.W.nsIn K mainGlobals "len" = some none)
    (z_range : PySem.W.nsIn K mainGlobals "range" = some none)
    (z_list : PySem.W.nsIn K mainGlobals "list" = some none)
    (z_sorted : PySem.W.nsIn K mainGlobals "sorted" = some none)
    (z_set : PySem.W.nsIn K mainGlobals "set" = some none)
    (z_tuple : PySem.W.nsIn K mainGlobals "tuple" = some none)
    (z_max : PySem.W.nsIn K mainGlobals "max" = some none)
    (z_min : PySem.W.nsIn K mainGlobals "min" = some none)
    (z_zip : PySem.W.nsIn K mainGlobals "zip" = some none)
    (z_enumerate : PySem.W.nsIn K mainGlobals "enumerate" = some none)
    (z_int : PySem.W.nsIn K mainGlobals "int" = some none)
    (z_bool : PySem.W.nsIn K mainGlobals "bool" = some none)
    (z_str : PySem.W.nsIn K mainGlobals "str" = some none)
    (z_ValueError : PySem.W.nsIn K mainGlobals "ValueError" = some none)
    {t0 : Tok} (v0 : PySem.W.nsIn K mainGlobals "MOST_CELLS" = some (some (.int 40 t0)))
    {t1 : Tok} (v1 : PySem.W.nsIn K mainGlobals "MOST_COLOUR" = some (some (.int 9 t1)))
    {t2 : Tok} (v2 : PySem.W.nsIn K mainGlobals "LEAST_RING" = some (some (.int 3 t2)))
    {t3 : Tok} (v3 : PySem.W.nsIn K mainGlobals "MOST_READY" = some (some (.int 16 t3)))
    : Tp K mg where
  d_isin := ⟨f0, _, fun_mk (st := s_isin) l0 e0 k0, (fun_mk (st := s_isin) l0 e0 k0).binds (ps := ps_isin) (fun _ _ _ _ _ _ us hl => match us, hl with | [_, _, _], _ => rfl), PySem.W.mg_of X G a0⟩
  d_needline := ⟨f1, _, fun_mk (st := s_needline) l1 e1 k1, (fun_mk (st := s_needline) l1 e1 k1).binds (ps := ps_needline) (fun _ _ _ _ _ _ us hl => match us, hl with | [_], _ => rfl), PySem.W.mg_of X G a1⟩
  d_iscells := ⟨f2, _, fun_mk (st := s_iscells) l2 e2 k2, (fun_mk (st := s_iscells) l2 e2 k2).binds (ps := ps_iscells) (fun _ _ _ _ _ _ us hl => match us, hl with | [_, _], _ => rfl), PySem.W.mg_of X G a2⟩
  d_heldin := ⟨f3, _, fun_mk (st := s_heldin) l3 e3 k3, (fun_mk (st := s_heldin) l3 e3 k3).binds (ps := ps_heldin) (fun _ _ _ _ _ _ us hl => match us, hl with | [_], _ => rfl), PySem.W.mg_of X G a3⟩
  d_flanks := ⟨f4, _, fun_mk (st := s_flanks) l4 e4 k4, (fun_mk (st := s_flanks) l4 e4 k4).binds (ps := ps_flanks) (fun _ _ _ _ _ _ us hl => match us, hl with | [_, _], _ => rfl), PySem.W.mg_of X G a4⟩
  d_isflanked := ⟨f5, _, fun_mk (st := s_isflanked) l5 e5 k5, (fun_mk (st := s_isflanked) l5 e5 k5).binds (ps := ps_isflanked) (fun _ _ _ _ _ _ us hl => match us, hl with | [_, _], _ => rfl), PySem.W.mg_of X G a5⟩
  d_readyin := ⟨f6, _, fun_mk (st := s_readyin) l6 e6 k6, (fun_mk (st := s_readyin) l6 e6 k6).binds (ps := ps_readyin) (fun _ _ _ _ _ _ us hl => match us, hl with | [_], _ => rfl), PySem.W.mg_of X G a6⟩
  d_swingsin := ⟨f7, _, fun_mk (st := s_swingsin) l7 e7 k7, (fun_mk (st := s_swingsin) l7 e7 k7).binds (ps := ps_swingsin) (fun _ _ _ _ _ _ us hl => match us, hl with | [_], _ => rfl), PySem.W.mg_of X G a7⟩
  d_stretchesin := ⟨f8, _, fun_mk (st := s_stretchesin) l8 e8 k8, (fun_mk (st := s_stretchesin) l8 e8 k8).binds (ps := ps_stretchesin) (fun _ _ _ _ _ _ us hl => match us, hl with | [_], _ => rfl), PySem.W.mg_of X G a8⟩
  d_insides := ⟨f9, _, fun_mk (st := s_insides) l9 e9 k9, (fun_mk (st := s_insides) l9 e9 k9).binds (ps := ps_insides) (fun _ _ _ _ _ _ us hl => match us, hl with | [_], _ => rfl), PySem.W.mg_of X G a9⟩
  d_added := ⟨f10, _, fun_mk (st := s_added) l10 e10 k10, (fun_mk (st := s_added) l10 e10 k10).binds (ps := ps_added) (fun _ _ _ _ _ _ us hl => match us, hl with | [_, _], _ => rfl), PySem.W.mg_of X G a10⟩
  d_multiplied := ⟨f11, _, fun_mk (st := s_multiplied) l11 e11 k11, (fun_mk (st := s_multiplied) l11 e11 k11).binds (ps := ps_multiplied) (fun _ _ _ _ _ _ us hl => match us, hl with | [_, _], _ => rfl), PySem.W.mg_of X G a11⟩
  d_pathends := ⟨f12, _, fun_mk (st := s_pathends) l12 e12 k12, (fun_mk (st := s_pathends) l12 e12 k12).binds (ps := ps_pathends) (fun _ _ _ _ _ _ us hl => match us, hl with | [_], _ => rfl), PySem.W.mg_of X G a12⟩
  d_ringends := ⟨f13, _, fun_mk (st := s_ringends) l13 e13 k13, (fun_mk (st := s_ringends) l13 e13 k13).binds (ps := ps_ringends) (fun _ _ _ _ _ _ us hl => match us, hl with | [_], _ => rfl), PySem.W.mg_of X G a13⟩
  d_byturns := ⟨f14, _, fun_mk (st := s_byturns) l14 e14 k14, (fun_mk (st := s_byturns) l14 e14 k14).binds (ps := ps_byturns) (fun _ _ _ _ _ _ us hl => match us, hl with | [_, _, _], _ => rfl), PySem.W.mg_of X G a14⟩
  d_trimmed := ⟨f15, _, fun_mk (st := s_trimmed) l15 e15 k15, (fun_mk (st := s_trimmed) l15 e15 k15).binds (ps := ps_trimmed) (fun _ _ _ _ _ _ us hl => match us, hl with | [_], _ => rfl), PySem.W.mg_of X G a15⟩
  d_fewestturns := ⟨f16, _, fun_mk (st := s_fewestturns) l16 e16 k16, (fun_mk (st := s_fewestturns) l16 e16 k16).binds (ps := ps_fewestturns) (fun _ _ _ _ _ _ us hl => match us, hl with | [_], _ => rfl), PySem.W.mg_of X G a16⟩
  d_mostturns := ⟨f17, _, fun_mk (st := s_mostturns) l17 e17 k17, (fun_mk (st := s_mostturns) l17 e17 k17).binds (ps := ps_mostturns) (fun _ _ _ _ _ _ us hl => match us, hl with | [_], _ => rfl), PySem.W.mg_of X G a17⟩
  d_further := ⟨f18, _, fun_mk (st := s_further) l18 e18 k18, (fun_mk (st := s_further) l18 e18 k18).binds (ps := ps_further) (fun _ _ _ _ _ _ us hl => match us, hl with | [_], _ => rfl), PySem.W.mg_of X G a18⟩
  d_valueof := ⟨f19, _, fun_mk (st := s_valueof) l19 e19 k19, (fun_mk (st := s_valueof) l19 e19 k19).binds (ps := ps_valueof) (fun _ _ _ _ _ _ us hl => match us, hl with | [_, _, _], _ => rfl), PySem.W.mg_of X G a19⟩
  d_turnsvalue := ⟨f20, _, fun_mk (st := s_turnsvalue) l20 e20 k20, (fun_mk (st := s_turnsvalue) l20 e20 k20).binds (ps := ps_turnsvalue) (fun _ _ _ _ _ _ us hl => match us, hl with | [_, _], _ => rfl), PySem.W.mg_of X G a20⟩
  d_Ltaken := ⟨f21, _, fun_mk (st := s_Ltaken) l21 e21 k21, (fun_mk (st := s_Ltaken) l21 e21 k21).binds (ps := ps_Ltaken) (fun _ _ _ _ _ _ us hl => match us, hl with | [_, _], _ => rfl), PySem.W.mg_of X G a21⟩
  d_Lpick := ⟨f22, _, fun_mk (st := s_Lpick) l22 e22 k22, (fun_mk (st := s_Lpick) l22 e22 k22).binds (ps := ps_Lpick) (fun _ _ _ _ _ _ us hl => match us, hl with | [_, _], _ => rfl), PySem.W.mg_of X G a22⟩
  d_Lline := ⟨f23, _, fun_mk (st := s_Lline) l23 e23 k23, (fun_mk (st := s_Lline) l23 e23 k23).binds (ps := ps_Lline) (fun _ _ _ _ _ _ us hl => match us, hl with | [_, _, _], _ => rfl), PySem.W.mg_of X G a23⟩
  d_Lheld := ⟨f24, _, fun_mk (st := s_Lheld) l24 e24 k24, (fun_mk (st := s_Lheld) l24 e24 k24).binds (ps := ps_Lheld) (fun _ _ _ _ _ _ us hl => match us, hl with | [_], _ => rfl), PySem.W.mg_of X G a24⟩
  d_Lready := ⟨f25, _, fun_mk (st := s_Lready) l25 e25 k25, (fun_mk (st := s_Lready) l25 e25 k25).binds (ps := ps_Lready) (fun _ _ _ _ _ _ us hl => match us, hl with | [_], _ => rfl), PySem.W.mg_of X G a25⟩
  d_Lvalue := ⟨f26, _, fun_mk (st := s_Lvalue) l26 e26 k26, (fun_mk (st := s_Lvalue) l26 e26 k26).binds (ps := ps_Lvalue) (fun _ _ _ _ _ _ us hl => match us, hl with | [_, _, _, _], _ => rfl), PySem.W.mg_of X G a26⟩
  d_Lalike := ⟨f27, _, fun_mk (st := s_Lalike) l27 e27 k27, (fun_mk (st := s_Lalike) l27 e27 k27).binds (ps := ps_Lalike) (fun _ _ _ _ _ _ us hl => match us, hl with | [_, _], _ => rfl), PySem.W.mg_of X G a27⟩
  d_law := ⟨f28, _, fun_mk (st := s_law) l28 e28 k28, (fun_mk (st := s_law) l28 e28 k28).binds (ps := ps_law) (fun _ _ _ _ _ _ us hl => match us, hl with | [_], _ => rfl), PySem.W.mg_of X G a28⟩
  n_isinstance := PySem.W.mg_none_of X G z_isinstance
  n_len := PySem.W.mg_none_of X G z_len
  n_range := PySem.W.mg_none_of X G z_range
  n_list := PySem.W.mg_none_of X G z_list
  n_sorted := PySem.W.mg_none_of X G z_sorted
  n_set := PySem.W.mg_none_of X G z_set
  n_tuple := PySem.W.mg_none_of X G z_tuple
  n_max := PySem.W.mg_none_of X G z_max
  n_min := PySem.W.mg_none_of X G z_min
  n_zip := PySem.W.mg_none_of X G z_zip
  n_enumerate := PySem.W.mg_none_of X G z_enumerate
  n_int := PySem.W.mg_none_of X G z_int
  n_bool := PySem.W.mg_none_of X G z_bool
  n_str := PySem.W.mg_none_of X G z_str
  n_ValueError := PySem.W.mg_none_of X G z_ValueError
  c_MOST_CELLS := ⟨_, PySem.W.mg_of X G v0⟩
  c_MOST_COLOUR := ⟨_, PySem.W.mg_of X G v1⟩
  c_LEAST_RING := ⟨_, PySem.W.mg_of X G v2⟩
  c_MOST_READY := ⟨_, PySem.W.mg_of X G v3⟩
theorem walk {l : PySem.W.OpenLaw} {q : Program} {loose : List Str} {XP : (Str → Option Value) → Heap → Prop} {YP : World → Heap → Prop} {d : DefRec} {K : Params → PySem.W.Frag} (hn : l.most = some 63) (hdf : d.params.defaults = [])
    (hY : ∀ (w : World) (h : Heap), YP w h → (K w.params).In h)
    (F : ∀ (w : World) (mg : Str → Option Value) (fa : Addr) (h : Heap), (K w.params).In h → h.Ns mainGlobals mg → mg d.name = some (.ref fa) →
      ∃ fd : FuncData, (∀ (s : Shared) (u : Value), BindsTo s fd ⟨[u], []⟩ [("_law_script", u)]) ∧ ∀ base : Heap, (K w.params).In base → base.Ns mainGlobals mg → FnOk l.prog w (K w.params) mg base CX0 40 fa fd ["_law_script"] (spLaw (K w.params))) :
    PySem.W.WalkO q loose XP YP l.row.toRowW d [] (fun f vs => PySem.call f vs) :=
  L2.walk_of (n := 63) (k := 40) (x := "_law_script") (CX := fun _ => CX0) (sp := fun w => spLaw (K w.params)) hn (by decide) hdf ⟨rfl, by decide, by decide⟩ hY F (fun _ _ a ns hl _ hS => ⟨a, ns, rfl, hS, hl, fun _ => rfl⟩) fun _ _ _ _ _ z => z
end FT
open PySem PySem.W PyProof.Rows
set_option maxRecDepth 100000 in
set_option maxHeartbeats 0 in
theorem PySem.Challenge.cw_flankturns_k24_whole_many_against_few_holds : PySem.Challenge.rw_flankturns_k24_whole_many_against_few.Holds := by
  w_on; o_law; k_head; (case hw => w_witness2)
  k_fill
  refine FT.walk (l := PySem.Challenge.rw_flankturns_k24_whole_many_against_few) rfl rfl (fun w h Y => PySem.W.kIn_of Y) ?F
  case F =>
    intro w mg fa h KX G hmg
    refine FT.law_fin (P := PySem.Challenge.rw_flankturns_k24_whole_many_against_few.prog) (w := w) ?T hmg
    refine' FT.tp_mk KX G ?a0 ?l0 ?e0 ?k0 ?a1 ?l1 ?e1 ?k1 ?a2 ?l2 ?e2 ?k2 ?a3 ?l3 ?e3 ?k3 ?a4 ?l4 ?e4 ?k4 ?a5 ?l5 ?e5 ?k5 ?a6 ?l6 ?e6 ?k6 ?a7 ?l7 ?e7 ?k7 ?a8 ?l8 ?e8 ?k8 ?a9 ?l9 ?e9 ?k9 ?a10 ?l10 ?e10 ?k10 ?a11 ?l11 ?e11 ?k11 ?a12 ?l12 ?e12 ?k12 ?a13 ?l13 ?e13 ?k13 ?a14 ?l14 ?e14 ?k14 ?a15 ?l15 ?e15 ?k15 ?a16 ?l16 ?e16 ?k16 ?a17 ?l17 ?e17 ?k17 ?a18 ?l18 ?e18 ?k18 ?a19 ?l19 ?e19 ?k19 ?a20 ?l20 ?e20 ?k20 ?a21 ?l21 ?e21 ?k21 ?a22 ?l22 ?e22 ?k22 ?a23 ?l23 ?e23 ?k23 ?a24 ?l24 ?e24 ?k24 ?a25 ?l25 ?e25 ?k25 ?a26 ?l26 ?e26 ?k26 ?a27 ?l27 ?e27 ?k27 ?a28 ?l28 ?e28 ?k28 ?z_isinstance ?z_len ?z_range ?z_list ?z_sorted ?z_set ?z_tuple ?z_max ?z_min ?z_zip ?z_enumerate ?z_int ?z_bool ?z_str ?z_ValueError ?v0 ?v1 ?v2 ?v3
    (case a0 => k_is)
    (case l0 => k_is)
    (case e0 => k_is)
    (case k0 => k_is)
    (case a1 => k_is)
    (case l1 => k_is)
    (case e1 => k_is)
    (case k1 => k_is)
    (case a2 => k_is)
    (case l2 => k_is)
    (case e2 => k_is)
    (case k2 => k_is)
    (case a3 => k_is)
    (case l3 => k_is)
    (case e3 => k_is)
    (case k3 => k_is)
    (case a4 => k_is)
    (case l4 => k_is)
    (case e4 => k_is)
    (case k4 => k_is)
    (case a5 => k_is)
    (case l5 => k_is)
    (case e5 => k_is)
    (case k5 => k_is)
    (case a6 => k_is)
    (case l6 => k_is)
    (case e6 => k_is)
    (case k6 => k_is)
    (case a7 => k_is)
    (case l7 => k_is)
    (case e7 => k_is)
    (case k7 => k_is)
    (case a8 => k_is)
    (case l8 => k_is)
    (case e8 => k_is)
    (case k8 => k_is)
    (case a9 => k_is)
    (case l9 => k_is)
    (case e9 => k_is)
    (case k9 => k_is)
    (case a10 => k_is)
    (case l10 => k_is)
    (case e10 => k_is)
    (case k10 => k_is)
    (case a11 => k_is)
    (case l11 => k_is)
    (case e11 => k_is)
    (case k11 => k_is)
    (case a12 => k_is)
    (case l12 => k_is)
    (case e12 => k_is)
    (case k12 => k_is)
    (case a13 => k_is)
    (case l13 => k_is)
    (case e13 => k_is)
    (case k13 => k_is)
    (case a14 => k_is)
    (case l14 => k_is)
    (case e14 => k_is)
    (case k14 => k_is)
    (case a15 => k_is)
    (case l15 => k_is)
    (case e15 => k_is)
    (case k15 => k_is)
    (case a16 => k_is)
    (case l16 => k_is)
    (case e16 => k_is)
    (case k16 => k_is)
    (case a17 => k_is)
    (case l17 => k_is)
    (case e17 => k_is)
    (case k17 => k_is)
    (case a18 => k_is)
    (case l18 => k_is)
    (case e18 => k_is)
    (case k18 => k_is)
    (case a19 => k_is)
    (case l19 => k_is)
    (case e19 => k_is)
    (case k19 => k_is)
    (case a20 => k_is)
    (case l20 => k_is)
    (case e20 => k_is)
    (case k20 => k_is)
    (case a21 => k_is)
    (case l21 => k_is)
    (case e21 => k_is)
    (case k21 => k_is)
    (case a22 => k_is)
    (case l22 => k_is)
    (case e22 => k_is)
    (case k22 => k_is)
    (case a23 => k_is)
    (case l23 => k_is)
    (case e23 => k_is)
    (case k23 => k_is)
    (case a24 => k_is)
    (case l24 => k_is)
    (case e24 => k_is)
    (case k24 => k_is)
    (case a25 => k_is)
    (case l25 => k_is)
    (case e25 => k_is)
    (case k25 => k_is)
    (case a26 => k_is)
    (case l26 => k_is)
    (case e26 => k_is)
    (case k26 => k_is)
    (case a27 => k_is)
    (case l27 => k_is)
    (case e27 => k_is)
    (case k27 => k_is)
    (case a28 => k_is)
    (case l28 => k_is)
    (case e28 => k_is)
    (case k28 => k_is)
    (case z_isinstance => k_is)
    (case z_len => k_is)
    (case z_range => k_is)
    (case z_list => k_is)
    (case z_sorted => k_is)
    (case z_set => k_is)
    (case z_tuple => k_is)
    (case z_max => k_is)
    (case z_min => k_is)
    (case z_zip => k_is)
    (case z_enumerate => k_is)
    (case z_int => k_is)
    (case z_bool => k_is)
    (case z_str => k_is)
    (case z_ValueError => k_is)
    (case v0 => k_is)
    (case v1 => k_is)
    (case v2 => k_is)
    (case v3 => k_is)
